import PyProof.Rows.All
import Wide.All
import OpenK.AllK
import Wide.FinOn
import HandS.Base
import HandS.Call
import HandS.List
import HandS.Comp
import HandS.Ends
import HandS.Dict
import HandS.Iter
import HandS.Text
import HandS.More
import HandS.Exc
import HandS.ExcOwn
import HandS.HotCalls
import HandS.ExcIs
import HandS.ExcField
import HandS.ExcInit
import HandS.TryOnly
import HandS.Words
import HandS.WordsList
import HandS.WordsDict
import HandS.WordsExc
import HandS.Deep
import HandS.Wide
import HandS.IsInst
import HandS.RevTup
import HandS.Zip
import HandS.ExcCtx
import HandS.SuiteRaise
import KE.KeyNested
import HandS.TupAny
import HandS.TupLen
import KE.KDictCopyH
import HandS.Conv
import HandS.SortInts
import KE.SortData
import HandS.Style
import KE.DataMinMax
import HandS.Sort
import KE.KDictList
import PyProof.MinMaxWalk
import HandS.Rev
import PyProof.AutoRange
import PyProof.RangeIter
import KE.IntTextLaws
import PyProof.StrLawsChain
import HandS.RaiseMore
import PyProof.Rows.StrRev
import KE.KExcIs
import HandS.TupMul
import KE.KDictPairs
import PyProof.ListStr
import HandS.SetFor
import PyProof.Rows.SortStr
import HandS.ListItems
import HandS.DictTup
import HandS.NoneIn
import KE.GoesZip
import PyProof.EnumMake
import HandS.Strs
import HandS.StrMore
import KE.GoesEnum
import HandS.DictComp
import HandS.RaiseFrom
import HandS.TupSets
import PySem.Challenge.RW_carpetkin_k84_all_forms
set_option Elab.async false
set_option linter.all false
set_option maxRecDepth 100000
set_option maxHeartbeats 4000000

/-! VS: defs by plain values. D: data without addresses; each expression's and statement's reading over an environment of such data; rules that lead from it to the machine. -/
namespace VS
open PySem PySem.Spec L2

/-! ### data -/
inductive D where
  | non | bl (b : Bool) | int (i : Int) | str (x : Str) | ty (n : String)
  | tup (xs : List D) | lst (xs : List D) | dic (t : Bool) (kvs : List (D × D)) | ktup (xs : List D) | kdic (kvs : List (D × D)) | exc (x : Str) (fs : List (D × D)) | dix (kvs : List (D × D)) | ins (x : Str) (fs : List (D × D))
mutual
def D.beq : D → D → Bool
  | .non, .non => true
  | .bl a, .bl b => a == b
  | .int a, .int b => a == b
  | .str a, .str b => decide (a = b)
  | .ty a, .ty b => a == b
  | .tup a, .tup b => D.beqL a b
  | .lst a, .lst b => D.beqL a b
  | .dic t a, .dic u b => t == u && D.beqP a b
  | .ktup a, .ktup b => D.beqL a b
  | .kdic a, .kdic b => D.beqP a b
  | .exc x a, .exc y b => decide (x = y) && D.beqP a b
  | .dix a, .dix b => D.beqP a b
  | .ins x a, .ins y b => decide (x = y) && D.beqP a b
  | _, _ => false
  termination_by structural a => a
def D.beqL : List D → List D → Bool
  | [], [] => true
  | a :: r, b :: s => D.beq a b && D.beqL r s
  | _, _ => false
  termination_by structural a => a
def D.beqP : List (D × D) → List (D × D) → Bool
  | [], [] => true
  | a :: r, b :: s => D.beqQ a b && D.beqP r s
  | _, _ => false
  termination_by structural a => a
def D.beqQ : (D × D) → (D × D) → Bool
  | (k, a), (j, b) => D.beq k j && D.beq a b
  termination_by structural a => a
end
mutual
theorem D.beq_iff : ∀ a b : D, D.beq a b = true ↔ a = b
  | a, b => by
    cases a <;> cases b <;> simp [D.beq]
    · exact D.beqL_iff _ _
    · exact D.beqL_iff _ _
    · intro _; exact D.beqP_iff _ _
    · exact D.beqL_iff _ _
    · exact D.beqP_iff _ _
    · intro _; exact D.beqP_iff _ _
    · exact D.beqP_iff _ _
    · intro _; exact D.beqP_iff _ _
theorem D.beqL_iff : ∀ a b : List D, D.beqL a b = true ↔ a = b
  | a, b => by
    cases a <;> cases b <;> simp [D.beqL]
    rw [D.beq_iff, D.beqL_iff]
theorem D.beqP_iff : ∀ a b : List (D × D), D.beqP a b = true ↔ a = b
  | a, b => by
    cases a <;> cases b <;> simp [D.beqP]
    rw [D.beqQ_iff, D.beqP_iff]
theorem D.beqQ_iff : ∀ a b : D × D, D.beqQ a b = true ↔ a = b
  | (a, a'), (b, b') => by
    simp [D.beqQ]
    rw [D.beq_iff, D.beq_iff]
end
instance : DecidableEq D := fun a b => decidable_of_iff _ (D.beq_iff a b)
instance : Inhabited D := ⟨.non⟩

def keyD : Key → D
  | .inl i => .int i
  | .inr x => .str x
theorem keyD_inj {a b : Key} (h : keyD a = keyD b) : a = b := by
  cases a <;> cases b <;> simp_all [keyD]
def keysD (k : List Key) : D := .tup (k.map keyD)
theorem map_inj {α β : Type} {f : α → β} (hf : ∀ a b, f a = f b → a = b) : ∀ {l m : List α}, l.map f = m.map f → l = m
  | [], [], _ => rfl
  | [], _ :: _, h => by simp at h
  | _ :: _, [], h => by simp at h
  | a :: l, b :: m, h => by
    rw [List.map_cons, List.map_cons, List.cons.injEq] at h
    rw [hf _ _ h.1, map_inj hf h.2]
theorem keysD_inj {a b : List Key} (h : keysD a = keysD b) : a = b := map_inj (fun _ _ => keyD_inj) (D.tup.inj h)

/-! ### data in a heap -/
/-- an exception's object, of the class at C, its dict at d -/
def exO (C : Addr) (d : Option Addr) (a : Addr) : HO := .ext fun h => ∃ (oe : Obj) (vs : Array Value), h.get? a = some oe ∧ Zc (.ref C) d oe ∧ oe.data = .fields vs
def XF (G : Hp) (d : Option Addr) (fs : List (Str × V)) : Prop := (d = none ∧ fs = []) ∨ ∃ dx, d = some dx ∧ G dx = some (.xd fs)
def keysF (fs : List (Str × V)) : List (Key × V) := fs.map fun p => (.inr p.1, p.2)
theorem XF.mono {G H : Hp} (s : Same G H) {d : Option Addr} {fs : List (Str × V)} (h : XF G d fs) : XF H d fs := by
  rcases h with h | ⟨dx, h1, h2⟩
  · exact .inl h
  · exact .inr ⟨dx, h1, s _ _ h2⟩
mutual
/-- data as a key of any depth -/
def nkD : D → Option PySem.NestedKey
  | .int i => some (.num i)
  | .str x => some (.text x)
  | .tup xs => (nkL xs).map .tup
  | .ktup xs => (nkL xs).map .tup
  | _ => none
  termination_by structural a => a
def nkL : List D → Option (List PySem.NestedKey)
  | [] => some []
  | d :: ds => match nkD d with
    | some k => (nkL ds).map (k :: ·)
    | none => none
  termination_by structural a => a
end
/-- a dict whose keys are tuples of any depth, at a -/
def dxOk (w : World) (a : Addr) (kvs : List (PySem.NestedKey × Addr × V)) (h : Heap) : Prop := kvs.length ≤ sizeLine ∧ (a == sysModules) = false ∧ ∃ xs : List (PySem.NestedKey × Addr × Value),
  Paired (fun (p : PySem.NestedKey × Addr × V) (q : PySem.NestedKey × Addr × Value) => p.1 = q.1 ∧ p.2.1 = q.2.1 ∧ RelV p.2.2 q.2.2) kvs xs ∧ ∃ o es ep, h.get? a = some o ∧ o.ExactDict ∧ o.data = .dict es ep ∧ es.toList = xs.map (fun x => ⟨PySem.NestedKey.hash w x.1, .ref x.2.1, x.2.2⟩) ∧ (xs.map (·.1)).Nodup
def dxO (w : World) (a : Addr) (kvs : List (PySem.NestedKey × Addr × V)) : HO := .ext (dxOk w a kvs)
mutual
inductive Rep (K : PySem.W.Frag) (w : World) (G : Hp) : V → D → Prop
  | non : Rep K w G .non .non
  | bl (b : Bool) : Rep K w G (.bl b) (.bl b)
  | int (i : Int) : Rep K w G (.int i) (.int i)
  | str (x : Str) : Rep K w G (.str x) (.str x)
  | ty (n : String) : Rep K w G (.ty n) (.ty n)
  | tup {a : Addr} {vs : List V} {ds : List D} : G a = some (.tup vs) → RepL K w G vs ds → Rep K w G (.ref a) (.tup ds)
  | ktup {a : Addr} {vs : List V} {ds : List D} : (∃ (o : Obj) (its : Array Value) (n : Nat), K.lookup a = some o ∧ o.cls = .type "tuple" ∧ o.data = .seq its n ∧ its.size ≤ sizeLine ∧ Vals vs its.toList) → RepL K w G vs ds → Rep K w G (.ref a) (.ktup ds)
  | lst {a : Addr} {vs : List V} {ds : List D} : G a = some (.lst vs) → RepL K w G vs ds → Rep K w G (.ref a) (.lst ds)
  | dicK {a : Addr} {kvs : List (Key × V)} {ds : List (D × D)} : Rd G a (.dK kvs) → RepK K w G kvs ds → Rep K w G (.ref a) (.dic false ds)
  | dicT {a : Addr} {kvs : List (List Key × V)} {ds : List (D × D)} : Rd G a (.dT kvs) → RepT K w G kvs ds → Rep K w G (.ref a) (.dic true ds)
  | dicC {a : Addr} {ds : List (D × D)} : RepC K w G a ds → Rep K w G (.ref a) (.kdic ds)
  | exc {a C : Addr} {d : Option Addr} {x : Str} {fs : List (Str × V)} {ds : List (D × D)} : G a = some (exO C d a) → PySem.W.nsIn K mainGlobals x = some (some (.ref C)) → XF G d fs → RepK K w G (keysF fs) ds → Rep K w G (.ref a) (.exc x ds)
  | dix {a a' : Addr} {kvs : List (PySem.NestedKey × Addr × V)} {ds : List (D × D)} : Rd G a (dxO w a' kvs) → RepN K w G kvs ds → Rep K w G (.ref a) (.dix ds)
  | ins {a C dx : Addr} {x : Str} {fs : List (Str × V)} {ds : List (D × D)} : G a = some (.ins C dx fs) → G dx = some (.own a) → PySem.W.nsIn K mainGlobals x = some (some (.ref C)) → RepK K w G (keysF fs) ds → Rep K w G (.ref a) (.ins x ds)
inductive RepL (K : PySem.W.Frag) (w : World) (G : Hp) : List V → List D → Prop
  | nil : RepL K w G [] []
  | cons {v : V} {vs : List V} {d : D} {ds : List D} : Rep K w G v d → RepL K w G vs ds → RepL K w G (v :: vs) (d :: ds)
inductive RepK (K : PySem.W.Frag) (w : World) (G : Hp) : List (Key × V) → List (D × D) → Prop
  | nil : RepK K w G [] []
  | cons {k : Key} {v : V} {vs : List (Key × V)} {d : D} {ds : List (D × D)} : Rep K w G v d → RepK K w G vs ds → RepK K w G ((k, v) :: vs) ((keyD k, d) :: ds)
inductive RepT (K : PySem.W.Frag) (w : World) (G : Hp) : List (List Key × V) → List (D × D) → Prop
  | nil : RepT K w G [] []
  | cons {k : List Key} {v : V} {vs : List (List Key × V)} {d : D} {ds : List (D × D)} : Rep K w G v d → RepT K w G vs ds → RepT K w G ((k, v) :: vs) ((keysD k, d) :: ds)
inductive RepN (K : PySem.W.Frag) (w : World) (G : Hp) : List (PySem.NestedKey × Addr × V) → List (D × D) → Prop
  | nil : RepN K w G [] []
  | cons {k : PySem.NestedKey} {ka : Addr} {v : V} {kd d : D} {vs : List (PySem.NestedKey × Addr × V)} {ds : List (D × D)} : nkD kd = some k → k.depth ≤ 8 → Rep K w G (.ref ka) kd → Rep K w G v d → RepN K w G vs ds → RepN K w G ((k, ka, v) :: vs) ((kd, d) :: ds)
/-- a written dict, keys texts -/
inductive RepC (K : PySem.W.Frag) (w : World) (G : Hp) : Addr → List (D × D) → Prop
  | nil {a : Addr} : RepC K w G a []
  | cons {a : Addr} {x : Str} {v : V} {d : D} {ds : List (D × D)} : KDct K w a x v → Rep K w G v d → RepC K w G a ds → RepC K w G a ((.str x, d) :: ds)
end
theorem Rd.mono {G H : Hp} (s : Same G H) {a : Addr} {u : HO} (h : Rd G a u) : Rd H a u := by
  rcases h with h | ⟨o, h⟩
  · exact .inl (s _ _ h)
  · exact .inr ⟨o, s _ _ h⟩
section
variable {K : PySem.W.Frag} {w : World} {G H : Hp}
mutual
theorem Rep.mono (s : Same G H) : ∀ {v : V} {d : D}, Rep K w G v d → Rep K w H v d
  | _, _, .non => .non
  | _, _, .bl b => .bl b
  | _, _, .int i => .int i
  | _, _, .str x => .str x
  | _, _, .ty n => .ty n
  | _, _, .tup h r => .tup (s _ _ h) (RepL.mono s r)
  | _, _, .ktup h r => .ktup h (RepL.mono s r)
  | _, _, .lst h r => .lst (s _ _ h) (RepL.mono s r)
  | _, _, .dicK h r => .dicK (Rd.mono s h) (RepK.mono s r)
  | _, _, .dicT h r => .dicT (Rd.mono s h) (RepT.mono s r)
  | _, _, .dicC r => .dicC (RepC.mono s r)
  | _, _, .exc h1 h2 h3 r => .exc (s _ _ h1) h2 (h3.mono s) (RepK.mono s r)
  | _, _, .dix h r => .dix (Rd.mono s h) (RepN.mono s r)
  | _, _, .ins h1 h2 h3 r => .ins (s _ _ h1) (s _ _ h2) h3 (RepK.mono s r)
theorem RepL.mono (s : Same G H) : ∀ {v : List V} {d : List D}, RepL K w G v d → RepL K w H v d
  | _, _, .nil => .nil
  | _, _, .cons h r => .cons (Rep.mono s h) (RepL.mono s r)
theorem RepK.mono (s : Same G H) : ∀ {v : List (Key × V)} {d : List (D × D)}, RepK K w G v d → RepK K w H v d
  | _, _, .nil => .nil
  | _, _, .cons h r => .cons (Rep.mono s h) (RepK.mono s r)
theorem RepT.mono (s : Same G H) : ∀ {v : List (List Key × V)} {d : List (D × D)}, RepT K w G v d → RepT K w H v d
  | _, _, .nil => .nil
  | _, _, .cons h r => .cons (Rep.mono s h) (RepT.mono s r)
theorem RepN.mono (s : Same G H) : ∀ {v : List (PySem.NestedKey × Addr × V)} {d : List (D × D)}, RepN K w G v d → RepN K w H v d
  | _, _, .nil => .nil
  | _, _, .cons e h1 h2 h r => .cons e h1 (Rep.mono s h2) (Rep.mono s h) (RepN.mono s r)
theorem RepC.mono (s : Same G H) : ∀ {a : Addr} {d : List (D × D)}, RepC K w G a d → RepC K w H a d
  | _, _, .nil => .nil
  | _, _, .cons h r t => .cons h (Rep.mono s r) (RepC.mono s t)
end
end
theorem RepL.length {K : PySem.W.Frag} {w : World} {G : Hp} : ∀ {vs : List V} {ds : List D}, RepL K w G vs ds → vs.length = ds.length
  | _, _, .nil => rfl
  | _, _, .cons _ r => by rw [List.length_cons, List.length_cons, RepL.length r]
theorem RepL.append {K : PySem.W.Frag} {w : World} {G : Hp} : ∀ {vs : List V} {ds : List D} {us : List V} {es : List D}, RepL K w G vs ds → RepL K w G us es → RepL K w G (vs ++ us) (ds ++ es)
  | _, _, _, _, .nil, q => q
  | _, _, _, _, .cons h r, q => .cons h (RepL.append r q)
theorem RepL.get {K : PySem.W.Frag} {w : World} {G : Hp} : ∀ {vs : List V} {ds : List D} {i : Nat} {d : D}, RepL K w G vs ds → ds[i]? = some d → ∃ v, vs[i]? = some v ∧ Rep K w G v d
  | _, _, _, _, .nil, e => by simp at e
  | _, _, 0, _, .cons h _, e => by
    simp at e
    subst e
    exact ⟨_, rfl, h⟩
  | _, _, i + 1, d, .cons _ r, e => by
    obtain ⟨v, h1, h2⟩ := RepL.get (i := i) (d := d) r (by simpa using e)
    exact ⟨v, by simpa using h1, h2⟩
theorem RepL.get' {K : PySem.W.Frag} {w : World} {G : Hp} : ∀ {vs : List V} {ds : List D} {i : Nat} {v : V}, RepL K w G vs ds → vs[i]? = some v → ∃ d, ds[i]? = some d ∧ Rep K w G v d
  | _, _, _, _, .nil, e => by simp at e
  | _, _, 0, _, .cons h _, e => by
    simp at e
    subst e
    exact ⟨_, rfl, h⟩
  | _, _, i + 1, d, .cons _ r, e => by
    obtain ⟨v, h1, h2⟩ := RepL.get' (i := i) (v := d) r (by simpa using e)
    exact ⟨v, by simpa using h1, h2⟩
theorem RepL.take {K : PySem.W.Frag} {w : World} {G : Hp} : ∀ {vs : List V} {ds : List D} (n : Nat), RepL K w G vs ds → RepL K w G (vs.take n) (ds.take n)
  | _, _, 0, _ => .nil
  | _, _, _ + 1, .nil => .nil
  | _, _, n + 1, .cons h r => .cons h (RepL.take n r)
theorem RepL.drop {K : PySem.W.Frag} {w : World} {G : Hp} : ∀ {vs : List V} {ds : List D} (n : Nat), RepL K w G vs ds → RepL K w G (vs.drop n) (ds.drop n)
  | _, _, 0, r => r
  | _, _, _ + 1, .nil => .nil
  | _, _, n + 1, .cons _ r => RepL.drop n r
theorem RepL.set {K : PySem.W.Frag} {w : World} {G : Hp} {x : V} {y : D} (q : Rep K w G x y) : ∀ {vs : List V} {ds : List D} (n : Nat), RepL K w G vs ds → RepL K w G (vs.set n x) (ds.set n y)
  | _, _, _, .nil => .nil
  | _, _, 0, .cons _ r => .cons q r
  | _, _, n + 1, .cons h r => .cons h (RepL.set q n r)
theorem RepL.reverse {K : PySem.W.Frag} {w : World} {G : Hp} {vs : List V} {ds : List D} (h : RepL K w G vs ds) : RepL K w G vs.reverse ds.reverse := by
  induction vs generalizing ds with
  | nil => cases h; exact .nil
  | cons v vs ih =>
    cases h with
    | cons h r =>
      rw [List.reverse_cons, List.reverse_cons]
      exact (ih r).append (.cons h .nil)

/-- readable at the top in H, what is in it in G -/
def RD (K : PySem.W.Frag) (w : World) (H G : Hp) (v : V) : D → Prop
  | .lst ds => ∃ a vs, v = .ref a ∧ SqL K H a vs ∧ RepL K w G vs ds
  | .dic false ds => ∃ a kvs, v = .ref a ∧ Rd H a (.dK kvs) ∧ RepK K w G kvs ds
  | .dic true ds => ∃ a kvs, v = .ref a ∧ Rd H a (.dT kvs) ∧ RepT K w G kvs ds
  | .dix ds => ∃ a a' kvs, v = .ref a ∧ Rd H a (dxO w a' kvs) ∧ RepN K w G kvs ds
  | d => Rep K w G v d
theorem Rep.rd {K : PySem.W.Frag} {w : World} {H G : Hp} {v : V} {d : D} (s : Same G H) (h : Rep K w G v d) : RD K w H G v d := by
  cases h with
  | tup h r => exact Rep.tup h r
  | ktup h r => exact Rep.ktup h r
  | lst h r => exact ⟨_, _, rfl, .inl (.inl (s _ _ h)), r⟩
  | dicK h r => exact ⟨_, _, rfl, Rd.mono s h, r⟩
  | dicT h r => exact ⟨_, _, rfl, Rd.mono s h, r⟩
  | dicC r => exact Rep.dicC r
  | exc h1 h2 h3 r => exact Rep.exc h1 h2 h3 r
  | dix h r => exact ⟨_, _, _, rfl, Rd.mono s h, r⟩
  | ins h1 h2 h3 r => exact Rep.ins h1 h2 h3 r
  | non => exact Rep.non
  | bl b => exact Rep.bl b
  | int b => exact Rep.int b
  | str b => exact Rep.str b
  | ty b => exact Rep.ty b
theorem RD.mono {K : PySem.W.Frag} {w : World} {H H' G G' : Hp} {v : V} {d : D} (s : Same H H') (t : Same G G') (h : RD K w H G v d) : RD K w H' G' v d := by
  cases d with
  | tup ds => exact Rep.mono t h
  | ktup ds => exact Rep.mono t h
  | kdic ds => exact Rep.mono t h
  | exc x ds => exact Rep.mono t h
  | dix ds => obtain ⟨a, a', kvs, e, q, r⟩ := h; exact ⟨a, a', kvs, e, Rd.mono s q, r.mono t⟩
  | ins x ds => exact Rep.mono t h
  | lst ds => obtain ⟨a, vs, e, q, r⟩ := h; exact ⟨a, vs, e, s.seq q, r.mono t⟩
  | dic b ds =>
    cases b with
    | false => obtain ⟨a, kvs, e, q, r⟩ := h; exact ⟨a, kvs, e, Rd.mono s q, r.mono t⟩
    | true => obtain ⟨a, kvs, e, q, r⟩ := h; exact ⟨a, kvs, e, Rd.mono s q, r.mono t⟩
  | non => exact Rep.mono t h
  | bl b => exact Rep.mono t h
  | int b => exact Rep.mono t h
  | str b => exact Rep.mono t h
  | ty b => exact Rep.mono t h
/-- all of it in H -/
def D.isL : D → Bool
  | .lst _ => true
  | _ => false
theorem RD.rep {K : PySem.W.Frag} {w : World} {H G : Hp} {v : V} {d : D} (s : Same G H) (h : RD K w H G v d) (hd : d.isL = false) : Rep K w H v d := by
  cases d with
  | tup ds => exact Rep.mono s h
  | ktup ds => exact Rep.mono s h
  | kdic ds => exact Rep.mono s h
  | exc x ds => exact Rep.mono s h
  | dix ds => obtain ⟨a, a', kvs, rfl, q, r⟩ := h; exact .dix q (r.mono s)
  | ins x ds => exact Rep.mono s h
  | lst ds => cases hd
  | dic b ds =>
    cases b with
    | false => obtain ⟨a, kvs, rfl, q, r⟩ := h; exact .dicK q (r.mono s)
    | true => obtain ⟨a, kvs, rfl, q, r⟩ := h; exact .dicT q (r.mono s)
  | non => exact Rep.mono s h
  | bl b => exact Rep.mono s h
  | int b => exact Rep.mono s h
  | str b => exact Rep.mono s h
  | ty b => exact Rep.mono s h

/-- the object at a, ours alone to change -/
def OwnO (K : PySem.W.Frag) (w : World) (G : Hp) : D → HO → Prop
  | .lst ds, o => ∃ vs, o = .lst vs ∧ RepL K w G vs ds
  | .dic false ds, o => ∃ kvs, o = .dK kvs ∧ RepK K w G kvs ds
  | .dic true ds, o => ∃ kvs, o = .dT kvs ∧ RepT K w G kvs ds
  | .dix ds, o => ∃ a kvs, o = dxO w a kvs ∧ RepN K w G kvs ds
  | _, _ => False
theorem OwnO.mono {K : PySem.W.Frag} {w : World} {G G' : Hp} {d : D} {o : HO} (t : Same G G') (h : OwnO K w G d o) : OwnO K w G' d o := by
  cases d with
  | lst ds => obtain ⟨vs, e, r⟩ := h; exact ⟨vs, e, r.mono t⟩
  | dic b ds =>
    cases b with
    | false => obtain ⟨vs, e, r⟩ := h; exact ⟨vs, e, r.mono t⟩
    | true => obtain ⟨vs, e, r⟩ := h; exact ⟨vs, e, r.mono t⟩
  | dix ds => obtain ⟨a, vs, e, r⟩ := h; exact ⟨a, vs, e, r.mono t⟩
  | _ => exact h.elim
theorem OwnO.rd {K : PySem.W.Frag} {w : World} {G H : Hp} {d : D} {o : HO} {a : Addr} (h : OwnO K w G d o) (e : H a = some o) : RD K w H G (.ref a) d := by
  cases d with
  | lst ds => obtain ⟨vs, rfl, r⟩ := h; exact ⟨a, vs, rfl, .inl (.inl e), r⟩
  | dic b ds =>
    cases b with
    | false => obtain ⟨vs, rfl, r⟩ := h; exact ⟨a, vs, rfl, .inl e, r⟩
    | true => obtain ⟨vs, rfl, r⟩ := h; exact ⟨a, vs, rfl, .inl e, r⟩
  | dix ds => obtain ⟨a', vs, rfl, r⟩ := h; exact ⟨a, a', vs, rfl, .inl e, r⟩
  | _ => exact h.elim
theorem OwnO.rep {K : PySem.W.Frag} {w : World} {G : Hp} {d : D} {o : HO} {a : Addr} (h : OwnO K w G d o) (e : G a = none) : Rep K w (upd G a o) (.ref a) d := by
  have s : Same G (upd G a o) := fun b u q => by rw [upd_ne (ne_of_none q e)]; exact q
  have h2 := h.mono s
  cases d with
  | lst ds => obtain ⟨vs, rfl, r⟩ := h2; exact .lst upd_same r
  | dic b ds =>
    cases b with
    | false => obtain ⟨vs, rfl, r⟩ := h2; exact .dicK (.inl upd_same) r
    | true => obtain ⟨vs, rfl, r⟩ := h2; exact .dicT (.inl upd_same) r
  | dix ds => obtain ⟨a', vs, rfl, r⟩ := h2; exact .dix (.inl upd_same) r
  | _ => exact h2.elim
theorem same_new {H : Hp} {p : Addr} {o : HO} (h : H p = none) : Same H (upd H p o) := fun b x e => by
  rw [upd_ne (ne_of_none e h)]
  exact e

/-! ### environments -/
inductive Slot where
  | emp | val (d : D) | own (d : D) | bor (d : D)
abbrev Env := List Slot
inductive RV where
  | val (d : D) | fr (d : D) | slot (i : Nat)
def rd (env : Env) : RV → Option D
  | .val d => some d
  | .fr d => some d
  | .slot i => match env[i]? with
    | some (.val d) => some d
    | some (.own d) => some d
    | some (.bor d) => some d
    | _ => none
def isTupO : HO → Bool
  | .tup _ => true
  | _ => false
/-- nothing of ours to change: nothing, or a tuple -/
def Nu (B : Hp) (a : Addr) : Prop := ∀ o, B a = some o → isTupO o = true
theorem Nu.of {B : Hp} {a : Addr} (h : B a = none) : Nu B a := fun o e => by rw [h] at e; cases e
theorem Nu.less {B B' : Hp} {a : Addr} (s : Same B B') (h : Nu B' a) : Nu B a := fun o e => h o (s _ _ e)
theorem OwnO.notTup {K : PySem.W.Frag} {w : World} {G : Hp} {d : D} {o : HO} (h : OwnO K w G d o) : isTupO o = false := by
  cases d with
  | lst ds => obtain ⟨vs, e, r⟩ := h; rw [e]; rfl
  | dic b ds =>
    cases b with
    | false => obtain ⟨vs, e, r⟩ := h; rw [e]; rfl
    | true => obtain ⟨vs, e, r⟩ := h; rw [e]; rfl
  | dix ds => obtain ⟨a', vs, e, r⟩ := h; rw [e]; rfl
  | _ => exact h.elim
/-- G' is more than G, and what is more is none of B -/
def Ext (B G G' : Hp) : Prop := Same G G' ∧ ∀ a, G' a ≠ none → G a ≠ none ∨ Nu B a
theorem Ext.refl (B G : Hp) : Ext B G G := ⟨Same.refl _, fun _ h => .inl h⟩
theorem Ext.trans {B G G1 G2 : Hp} (a : Ext B G G1) (b : Ext B G1 G2) : Ext B G G2 := ⟨a.1.trans b.1, fun p h => (b.2 p h).elim (a.2 p) .inr⟩
theorem Ext.less {B B' G G' : Hp} (s : Same B B') (a : Ext B' G G') : Ext B G G' := ⟨a.1, fun p h => (a.2 p h).imp id fun q => q.less s⟩
theorem Ext.none {B G G' : Hp} (a : Ext B G G') {p : Addr} (h : G p = none) (hb : ∃ o, B p = some o ∧ isTupO o = false) : G' p = none := by
  cases e : G' p with
  | none => rfl
  | some o =>
    rcases a.2 p (by rw [e]; simp) with q | q
    · exact absurd h q
    · obtain ⟨o', h1, h2⟩ := hb
      rw [q o' h1] at h2
      cases h2

/-- a module's facts and a def's names -/
structure Cfg where
  P : Program
  w : World
  K : PySem.W.Frag
  mg : Str → Option Value
  base : Heap
  N : List Str
  scope : Scope
  fn : Str → Bool
  k : Nat
  top : Bool
  calm : Bool
  nc : Bool := false
structure Good (c : Cfg) (X : Cx) : Prop where
  prog : X.prog = c.P
  w : X.w = c.w
  K : X.K = c.K
  mg : X.mg = c.mg
  base : X.base = c.base
  N : X.N = c.N
  nd : X.N.Nodup
  scope : X.env.scope = c.scope
  fn : X.fn = c.fn
  roomH : L2H.RoomH c.k X.A
  calmH : c.calm = true → X.calm = true ∧ X.A.handled = none
  po : PassesOwn (model X.prog X.w) X.A X.env X.xe
  stk : c.top = true → X.stack = X.env :: X.outer ∧ X.env.frame = some X.env.locals ∧ X.ex = []

theorem Good.calm {c : Cfg} {X : Cx} (g : Good c X) (hc : c.calm = true := by rfl) : X.calm = true := (g.calmH hc).1
theorem Good.room {c : Cfg} {X : Cx} (g : Good c X) (hc : c.calm = true := by rfl) : Room c.k X.A := ⟨(g.calmH hc).2, g.roomH.dp, g.roomH.un⟩
theorem Good.un {c : Cfg} {X : Cx} (g : Good c X) : X.A.units + 64 < cLine := by have := g.roomH.un; omega
theorem Good.hu {c : Cfg} {X : Cx} (g : Good c X) : X.A.units + 1 < cLine := by have := g.roomH.un; omega
structure RepEnv (c : Cfg) (G B H : Hp) (σ : St) (env : Env) : Prop where
  gh : Same G H
  bh : Same B H
  len : σ.length = env.length
  val : ∀ (i : Nat) (d : D), env[i]? = some (Slot.val d) → ∃ v, σ[i]? = some (some v) ∧ Rep c.K c.w G v d
  own : ∀ (i : Nat) (d : D), env[i]? = some (Slot.own d) → ∃ a o, σ[i]? = some (some (V.ref a)) ∧ G a = none ∧ B a = none ∧ H a = some o ∧ OwnO c.K c.w G d o
  bor : ∀ (i : Nat) (d : D), env[i]? = some (Slot.bor d) → ∃ v, σ[i]? = some (some v) ∧ RD c.K c.w B G v d
  dis : ∀ (i j : Nat) (d d' : D) (a : Addr), env[i]? = some (Slot.own d) → env[j]? = some (Slot.own d') → σ[i]? = some (some (V.ref a)) → σ[j]? = some (some (V.ref a)) → i = j

def RepR (c : Cfg) (G B H : Hp) (σ : St) (env : Env) (v : V) : RV → Prop
  | .val d => Rep c.K c.w G v d
  | .fr d => ∃ a o, v = .ref a ∧ G a = none ∧ B a = none ∧ H a = some o ∧ OwnO c.K c.w G d o ∧ ∀ (i : Nat) (d' : D), env[i]? = some (Slot.own d') → σ[i]? ≠ some (some (V.ref a))
  | .slot i => σ[i]? = some (some v) ∧ ∃ d, rd env (.slot i) = some d
/-- what stays of an environment while an expression runs: what is read stays read by the same data or is frozen -/
def Keeps (env env' : Env) : Prop := env'.length = env.length ∧ ∀ (i : Nat) (d' : D), env'[i]? = some (.bor d') → env[i]? = some (.bor d')
theorem Keeps.refl (env : Env) : Keeps env env := ⟨rfl, fun _ _ h => h⟩
theorem Keeps.trans {a b c : Env} (h : Keeps a b) (q : Keeps b c) : Keeps a c := ⟨q.1.trans h.1, fun i d e => h.2 i d (q.2 i d e)⟩
/-- what is known of such a dict, and that it stands there -/
theorem dx_rd {P : Program} {w w0 : World} {H : Hp} {h : Heap} {a a' : Addr} {kvs : List (PySem.NestedKey × Addr × V)} (ok : HOk P w H h) (e : Rd H a (dxO w0 a' kvs)) : a' = a ∧ dxOk w0 a kvs h := by
  obtain ⟨hp, _, st⟩ := (show ObjOk P w H h a (.ext (dxOk w0 a' kvs)) from e.ok ok)
  have ea : a' = a := by
    by_cases ea : a' = a
    · exact ea
    · exfalso
      obtain ⟨_, _, xs, _, o, es, ep, q, _⟩ := st h (PySem.W.hideAll h [a']) hp fun o q => PySem.W.hideAll_get _ q fun hm => ea (List.mem_singleton.mp hm).symm
      rw [PySem.W.hideAll_none [a'] (List.mem_singleton.mpr rfl)] at q
      cases q
  subst ea
  exact ⟨rfl, hp⟩
end VS

namespace VS
open PySem PySem.Spec L2

/-! ### what running does to the environment -/
/-- from (G, H) to (G', H'): nothing that stood is changed, what is new in G' is new -/
structure Res (G H G' H' : Hp) : Prop where
  hh : Same H H'
  gg : Same G G'
  gh : Same G' H'
  fresh : ∀ a, G' a ≠ none → G a ≠ none ∨ Nu H a
theorem Res.refl {G H : Hp} (s : Same G H) : Res G H G H := ⟨Same.refl _, Same.refl _, s, fun _ h => .inl h⟩
def ResR (c : Cfg) (G' H H' : Hp) (v : V) : RV → Prop
  | .val d => Rep c.K c.w G' v d
  | .fr d => ∃ a o, v = .ref a ∧ H a = none ∧ G' a = none ∧ H' a = some o ∧ OwnO c.K c.w G' d o
  | .slot _ => False
theorem Res.none {G H G' H' : Hp} (r : Res G H G' H') {a : Addr} (h : G a = none) (hh : ∃ o, H a = some o ∧ isTupO o = false) : G' a = none := by
  cases e : G' a with
  | none => rfl
  | some o =>
    rcases r.fresh a (by rw [e]; simp) with q | q
    · exact absurd h q
    · obtain ⟨o', h1, h2⟩ := hh
      rw [q o' h1] at h2
      cases h2
section
variable {c : Cfg} {G B H G' H' : Hp} {σ : St} {env : Env} {v : V} {rv : RV} {d : D}
theorem Res.ext (r : Res G H G' H') (bh : Same B H) : Ext B G G' := ⟨r.gg, fun a h => (r.fresh a h).imp id fun q => q.less bh⟩
theorem RepEnv.go (E : RepEnv c G B H σ env) (r : Res G H G' H') : RepEnv c G' B H' σ env where
  gh := r.gh
  bh := E.bh.trans r.hh
  len := E.len
  val := fun i d e => by
    obtain ⟨v, h1, h2⟩ := E.val i d e
    exact ⟨v, h1, h2.mono r.gg⟩
  own := fun i d e => by
    obtain ⟨a, o, h1, h2, h3, h4, h5⟩ := E.own i d e
    exact ⟨a, o, h1, r.none h2 ⟨o, h4, h5.notTup⟩, h3, r.hh _ _ h4, h5.mono r.gg⟩
  bor := fun i d e => by
    obtain ⟨v, h1, h2⟩ := E.bor i d e
    exact ⟨v, h1, h2.mono (Same.refl _) r.gg⟩
  dis := E.dis
theorem RepEnv.goR (E : RepEnv c G B H σ env) (r : Res G H G' H') (q : ResR c G' H H' v rv) : RepR c G' B H' σ env v rv := by
  cases rv with
  | val d => exact q
  | slot i => exact q.elim
  | fr d =>
    obtain ⟨a, o, e, h1, h2, h3, h4⟩ := q
    refine ⟨a, o, e, h2, E.bh.free h1, h3, h4, fun i d' ei es => ?_⟩
    obtain ⟨b, o', k1, k2, k3, k4, k5⟩ := E.own i d' ei
    rw [es] at k1
    cases k1
    rw [h1] at k4
    cases k4
/-- a fresh value is kept from then on -/
def RV.hold : RV → RV
  | .fr d => .val d
  | r => r
/-- a held value -/
def RepH (c : Cfg) (G : Hp) (σ : St) (v : V) : RV → Prop
  | .val d => Rep c.K c.w G v d
  | .fr _ => False
  | .slot i => σ[i]? = some (some v)
theorem RepH.mono (h : RepH c G σ v rv) (s : Same G G') : RepH c G' σ v rv := by
  cases rv with
  | val d => exact Rep.mono s h
  | fr d => exact h.elim
  | slot i => exact h
theorem RepR.hold (E : RepEnv c G B H σ env) (r : RepR c G B H σ env v rv) : ∃ G', Ext B G G' ∧ RepEnv c G' B H σ env ∧ RepH c G' σ v rv.hold := by
  cases rv with
  | val d => exact ⟨G, Ext.refl _ _, E, r⟩
  | slot i => exact ⟨G, Ext.refl _ _, E, r.1⟩
  | fr d =>
    obtain ⟨a, o, rfl, h1, h2, h3, h4, h5⟩ := r
    refine ⟨upd G a o, ⟨same_new h1, fun p hp => ?_⟩, ⟨fun b u q => ?_, E.bh, E.len, fun i d' e => ?_, fun i d' e => ?_, fun i d' e => ?_, E.dis⟩, h4.rep h1⟩
    · by_cases e : p = a
      · exact .inr (by rw [e]; exact Nu.of h2)
      · rw [upd_ne e] at hp
        exact .inl hp
    · by_cases e : b = a
      · subst e
        rw [upd_same] at q
        cases q
        exact h3
      · rw [upd_ne e] at q
        exact E.gh b u q
    · obtain ⟨v, k1, k2⟩ := E.val i d' e
      exact ⟨v, k1, k2.mono (same_new h1)⟩
    · obtain ⟨b, o', k1, k2, k3, k4, k5⟩ := E.own i d' e
      have ne : b ≠ a := fun z => h5 i d' e (by rw [← z]; exact k1)
      exact ⟨b, o', k1, by rw [upd_ne ne]; exact k2, k3, k4, k5.mono (same_new h1)⟩
    · obtain ⟨v, k1, k2⟩ := E.bor i d' e
      exact ⟨v, k1, k2.mono (Same.refl _) (same_new h1)⟩
theorem RepEnv.slot_rd {i : Nat} (E : RepEnv c G B H σ env) (e : rd env (.slot i) = some d) (h : σ[i]? = some (some v)) : RD c.K c.w H G v d := by
  unfold rd at e
  simp only at e
  split at e
  · rename_i d' q
    cases e
    obtain ⟨u, k1, k2⟩ := E.val i _ q
    rw [h] at k1
    cases k1
    exact k2.rd E.gh
  · rename_i d' q
    cases e
    obtain ⟨a, o, k1, k2, k3, k4, k5⟩ := E.own i _ q
    rw [h] at k1
    cases k1
    exact k5.rd k4
  · rename_i d' q
    cases e
    obtain ⟨u, k1, k2⟩ := E.bor i _ q
    rw [h] at k1
    cases k1
    exact k2.mono E.bh (Same.refl _)
  · cases e
theorem RepEnv.rdH (E : RepEnv c G B H σ env) (h : RepH c G σ v rv) (e : rd env rv = some d) : RD c.K c.w H G v d := by
  cases rv with
  | val d' =>
    cases e
    exact Rep.rd E.gh h
  | fr d' => exact h.elim
  | slot i => exact E.slot_rd e h
theorem RepEnv.rdR (E : RepEnv c G B H σ env) (h : RepR c G B H σ env v rv) (e : rd env rv = some d) : RD c.K c.w H G v d := by
  cases rv with
  | val d' =>
    cases e
    exact Rep.rd E.gh h
  | fr d' =>
    cases e
    obtain ⟨a, o, rfl, h1, h2, h3, h4, h5⟩ := h
    exact h4.rd h3
  | slot i => exact E.slot_rd e h.1
/-- the value is shared from then on -/
def fz (env : Env) : RV → Option (D × Env)
  | .val d => some (d, env)
  | .fr d => some (d, env)
  | .slot i => match env[i]? with
    | some (.val d) => some (d, env)
    | some (.own d) => some (d, env.set i (.val d))
    | some (.bor (.tup xs)) => some (.tup xs, env)
    | some (.bor (.str x)) => some (.str x, env)
    | some (.bor (.int x)) => some (.int x, env)
    | some (.bor (.bl x)) => some (.bl x, env)
    | _ => none
theorem RepR.fz {env' : Env} (E : RepEnv c G B H σ env) (r : RepR c G B H σ env v rv) (e : VS.fz env rv = some (d, env')) :
    ∃ G', Ext B G G' ∧ RepEnv c G' B H σ env' ∧ Rep c.K c.w G' v d ∧ Keeps env env' := by
  cases rv with
  | val d' =>
    cases e
    exact ⟨G, Ext.refl _ _, E, r, Keeps.refl _⟩
  | fr d' =>
    cases e
    obtain ⟨G', h1, h2, h3⟩ := RepR.hold E r
    exact ⟨G', h1, h2, h3, Keeps.refl _⟩
  | slot i =>
    unfold VS.fz at e
    simp only at e
    split at e
    · rename_i d' q
      cases e
      obtain ⟨u, k1, k2⟩ := E.val i _ q
      rw [r.1] at k1
      cases k1
      exact ⟨G, Ext.refl _ _, E, k2, Keeps.refl _⟩
    · rename_i d' q
      cases e
      obtain ⟨a, o, k1, h1, h2, h3, h4⟩ := E.own i _ q
      have k0 := r.1
      rw [k1] at k0
      have ev : V.ref a = v := Option.some.inj (Option.some.inj k0)
      subst ev
      have hi : i < env.length := (List.getElem?_eq_some_iff.mp q).1
      have old : ∀ {j : Nat} {s : Slot}, (env.set i (.val d))[j]? = some s → (j = i ∧ s = .val d) ∨ (j ≠ i ∧ env[j]? = some s) := fun {j s} ej => by
        by_cases z : j = i
        · subst z
          rw [List.getElem?_set_self hi] at ej
          exact .inl ⟨rfl, (Option.some.inj ej).symm⟩
        · rw [List.getElem?_set_ne (Ne.symm z)] at ej
          exact .inr ⟨z, ej⟩
      refine ⟨upd G a o, ⟨same_new h1, fun p hp => ?_⟩, ⟨fun b u q => ?_, E.bh, by rw [List.length_set]; exact E.len, fun j d' e => ?_, fun j d' e => ?_, fun j d' e => ?_, fun j k d1 d2 b e1 e2 => ?_⟩, h4.rep h1, List.length_set, fun j d' e => ?_⟩
      · by_cases e : p = a
        · exact .inr (by rw [e]; exact Nu.of h2)
        · rw [upd_ne e] at hp
          exact .inl hp
      · by_cases e : b = a
        · subst e
          rw [upd_same] at q
          cases q
          exact h3
        · rw [upd_ne e] at q
          exact E.gh b u q
      · rcases old e with ⟨rfl, es⟩ | ⟨ne, e'⟩
        · cases es
          exact ⟨_, k1, h4.rep h1⟩
        · obtain ⟨v, k1, k2⟩ := E.val j d' e'
          exact ⟨v, k1, k2.mono (same_new h1)⟩
      · rcases old e with ⟨rfl, es⟩ | ⟨ne, e'⟩
        · cases es
        · obtain ⟨b, o', m1, m2, m3, m4, m5⟩ := E.own j d' e'
          have nb : b ≠ a := fun z => ne (E.dis j i d' _ a e' q (by rw [← z]; exact m1) k1)
          exact ⟨b, o', m1, by rw [upd_ne nb]; exact m2, m3, m4, m5.mono (same_new h1)⟩
      · rcases old e with ⟨rfl, es⟩ | ⟨ne, e'⟩
        · cases es
        · obtain ⟨v, m1, m2⟩ := E.bor j d' e'
          exact ⟨v, m1, m2.mono (Same.refl _) (same_new h1)⟩
      · rcases old e1 with ⟨rfl, es⟩ | ⟨ne1, e1'⟩
        · cases es
        · rcases old e2 with ⟨rfl, es⟩ | ⟨ne2, e2'⟩
          · cases es
          · exact E.dis j k d1 d2 b e1' e2'
      · rcases old e with ⟨rfl, es⟩ | ⟨ne, e'⟩
        · cases es
        · exact e'
    iterate 4
      · rename_i q
        cases e
        obtain ⟨u, k1, k2⟩ := E.bor i _ q
        rw [r.1] at k1
        cases k1
        exact ⟨G, Ext.refl _ _, E, k2, Keeps.refl _⟩
    · cases e
end

/-! ### the judgements -/
/-- an error by its class's name and its fields -/
structure XD where
  cls : Str
  fs : List (D × D)
def RepX (c : Cfg) (G H : Hp) (cls : Value) (d : Option Addr) (x : XD) : Prop :=
  ∃ C, cls = .ref C ∧ PySem.W.nsIn c.K mainGlobals x.cls = some (some (.ref C)) ∧ ∃ fs, XF G d fs ∧ RepK c.K c.w G (keysF fs) x.fs
/-- what is only lent stays where it is -/
def BorS (env env' : Env) (σ σ' : St) : Prop := ∀ (i : Nat) (d : D), env'[i]? = some (Slot.bor d) → env[i]? = some (Slot.bor d) ∧ σ'[i]? = σ[i]?
theorem BorS.trans {e1 e2 e3 : Env} {s1 s2 s3 : St} (a : BorS e1 e2 s1 s2) (b : BorS e2 e3 s2 s3) : BorS e1 e3 s1 s3 := fun i d h => by
  obtain ⟨h1, h2⟩ := b i d h
  obtain ⟨h3, h4⟩ := a i d h1
  exact ⟨h3, h2.trans h4⟩
theorem BorS.refl (e : Env) (s : St) : BorS e e s s := fun i d h => ⟨h, rfl⟩
theorem Keeps.bors {e1 e2 : Env} (k : Keeps e1 e2) (s : St) : BorS e1 e2 s s := fun i d h => ⟨k.2 i d h, rfl⟩
abbrev XQ := XD → Env → Prop
abbrev ET := Env → (RV → Env → Prop) → XQ → Prop
abbrev TTt := Env → (Bool → Env → Prop) → XQ → Prop
abbrev AT := Env → (List RV → Env → Prop) → XQ → Prop
def WXo (c : Cfg) (G B : Hp) (σ : St) (env : Env) (Xq : XQ) : WX := fun cls d σ' H' =>
  ∃ x env' G', Xq x env' ∧ RepEnv c G' B H' σ' env' ∧ Ext B G G' ∧ BorS env env' σ σ' ∧ RepX c G' H' cls d x
/-- what may be let out: with nc, only errors without a context -/
def TakesC (c : Cfg) (X : Cx) (W : WX) : Prop := (c.nc = true → L2N.Takes X W) ∧ (c.nc = false → L2.Takes X W)
theorem TakesC.imp {c c' : Cfg} {X : Cx} {W W' : WX} (t : TakesC c X W) (h : ∀ cl d σ H, W' cl d σ H → W cl d σ H) (e : c'.nc = c.nc := by rfl) : TakesC c' X W' := ⟨fun z => (t.1 (e.symm.trans z)).imp h, fun z => (t.2 (e.symm.trans z)).imp h⟩
theorem TakesC.l2 {c : Cfg} {X : Cx} {W : WX} (t : TakesC c X W) (h : c.nc = false) : L2.Takes X W := t.2 h
theorem TakesC.of {c : Cfg} {X : Cx} {W : WX} (t : L2.Takes X W) (h : c.nc = false) : TakesC c X W := ⟨fun z => by (rw [h] at z; cases z), fun _ => t⟩
/-- a def's contract about errors -/
def cxP (nc : Bool) (P : Program) (w : World) : CXT := fun o H s E u s' => (nc = true → L2N.CX P w o H s E u s') ∧ (nc = false → L2.CX P w o H s E u s')
abbrev cxC (c : Cfg) : CXT := cxP c.nc c.P c.w
theorem cxC_t {c : Cfg} (h : c.nc = true) : cxC c = L2N.CX c.P c.w := by
  funext o H s E u s'
  exact propext ⟨fun z => z.1 h, fun z => ⟨fun _ => z, fun q => by (rw [h] at q; cases q)⟩⟩
theorem cxC_f {c : Cfg} (h : c.nc = false) : cxC c = L2.CX c.P c.w := by
  funext o H s E u s'
  exact propext ⟨fun z => z.2 h, fun z => ⟨fun q => by (rw [h] at q; cases q), fun _ => z⟩⟩
theorem takesC_of {c : Cfg} {X : Cx} {E : XK} {E₁ : Value → Shared → Prop} (hP : X.prog = c.P) (hw : X.w = c.w) (hs : X.stack = X.env :: X.outer) (hf : X.env.frame = some X.env.locals) (hex : X.ex = [])
    (hx : X.xe = fun e s' => wpAny (model X.prog X.w) X.A (leaving X.env e) (fun _ s'' => cxC c X.outer X.H_0 X.s_0 E e s'') E₁ s') : TakesC c X (fun cls d _ H => E cls d H) :=
  ⟨fun h => L2N.takes_of (E := E) (E₁ := E₁) hs hf hex (by rw [hx, cxC_t h, ← hP, ← hw]), fun h => L2.takes_of (E := E) (E₁ := E₁) hs hf hex (by rw [hx, cxC_f h, ← hP, ← hw])⟩
theorem passC {c : Cfg} {X : Cx} {W : WX} (g : Good c X) (tk : TakesC c X W) (σ : St) : PassesAt (cxC c) X σ (WE W σ) := fun pins H s e s' I z => by
  have z' : cxP c.nc X.prog X.w X.stack H s (WE W σ) e s' := by
    rw [g.prog, g.w]
    exact z
  cases h : c.nc with
  | true => exact L2N.passAt (tk.1 h) σ pins H s e s' I (z'.1 h)
  | false => exact L2.passAt (tk.2 h) σ pins H s e s' I (z'.2 h)
theorem takes_up {X : Cx} {c : Cfg} {G B G1 : Hp} {σ : St} {env e1 : Env} {Xq : XQ} (t : TakesC c X (WXo c G B σ env Xq)) (x : Ext B G G1) (k : Keeps env e1) : TakesC c X (WXo c G1 B σ e1 Xq) :=
  t.imp fun cls d σ' H' ⟨xd, env', G', q, E, x', b, r⟩ => ⟨xd, env', G', q, E, x.trans x', BorS.trans (k.bors σ) b, r⟩
def TU (X : Cx) (e : Expr) : TE := fun σ H Q => ∀ (pins : List (Addr × Obj)) (s : Shared), Inv X pins σ H s → wpAny (model X.prog X.w) X.A (eval e X.env) (EP X pins σ Q) X.xe s
theorem pe_tu {X : Cx} {e : Expr} : PE X e (TU X e) := ⟨fun pins s σ H Q I h => h pins s I⟩
theorem TU.of {X : Cx} {e : Expr} {t : TE} {σ : St} {H : Hp} {Q : VK} (h : PE X e t) (q : t σ H Q) : TU X e σ H Q := fun pins s I => h.run pins s σ H Q I q
theorem TU.imp {X : Cx} {e : Expr} {σ : St} {H : Hp} {Q Q' : VK} (h : TU X e σ H Q) (q : ∀ v H', Q v H' → Q' v H') : TU X e σ H Q' := fun pins s I =>
  thn (h pins s I) fun u s' ⟨v, H', I', r, z⟩ => ⟨v, H', I', r, q v H' z⟩
def VQ (c : Cfg) (G B : Hp) (σ : St) (env : Env) (Q : RV → Env → Prop) : VK := fun v H' =>
  ∃ rv env' G', Q rv env' ∧ RepEnv c G' B H' σ env' ∧ Ext B G G' ∧ Keeps env env' ∧ RepR c G' B H' σ env' v rv
theorem VQ.up {c : Cfg} {G B G1 : Hp} {σ : St} {env e1 : Env} {Q : RV → Env → Prop} {v : V} {H' : Hp} (h : VQ c G1 B σ e1 Q v H') (x : Ext B G G1) (k : Keeps env e1) : VQ c G B σ env Q v H' := by
  obtain ⟨rv, env', G', q, E, x', k', r⟩ := h
  exact ⟨rv, env', G', q, E, x.trans x', k.trans k', r⟩
structure VE (c : Cfg) (e : Expr) (t : ET) : Prop where
  run : ∀ (X : Cx), Good c X → ∀ (G B H : Hp) (σ : St) (env : Env) (Q : RV → Env → Prop) (Xq : XQ),
  RepEnv c G B H σ env → t env Q Xq → TakesC c X (WXo c G B σ env Xq) → TU X e σ H (VQ c G B σ env Q)
/-- tests -/
def TUt (X : Cx) (e : Expr) : TT := fun σ H Q => ∀ (pins : List (Addr × Obj)) (s : Shared), Inv X pins σ H s → wpAny (model X.prog X.w) X.A (isTrue e X.env (eval e X.env)) (TP X pins σ Q) X.xe s
theorem pt_tu {X : Cx} {e : Expr} : PT X e (TUt X e) := ⟨fun pins s σ H Q I h => h pins s I⟩
theorem TUt.of {X : Cx} {e : Expr} {t : TT} {σ : St} {H : Hp} {Q : Bool → Hp → Prop} (h : PT X e t) (q : t σ H Q) : TUt X e σ H Q := fun pins s I => h.run pins s σ H Q I q
theorem TUt.imp {X : Cx} {e : Expr} {σ : St} {H : Hp} {Q Q' : Bool → Hp → Prop} (h : TUt X e σ H Q) (q : ∀ v H', Q v H' → Q' v H') : TUt X e σ H Q' := fun pins s I =>
  thn (h pins s I) fun u s' ⟨H', I', z⟩ => ⟨H', I', q u H' z⟩
def VQt (c : Cfg) (G B : Hp) (σ : St) (env : Env) (Q : Bool → Env → Prop) : Bool → Hp → Prop := fun b H' =>
  ∃ env' G', Q b env' ∧ RepEnv c G' B H' σ env' ∧ Ext B G G' ∧ Keeps env env'
theorem VQt.up {c : Cfg} {G B G1 : Hp} {σ : St} {env e1 : Env} {Q : Bool → Env → Prop} {b : Bool} {H' : Hp} (h : VQt c G1 B σ e1 Q b H') (x : Ext B G G1) (k : Keeps env e1) : VQt c G B σ env Q b H' := by
  obtain ⟨env', G', q, E, x', k'⟩ := h
  exact ⟨env', G', q, E, x.trans x', k.trans k'⟩
structure VT (c : Cfg) (e : Expr) (t : TTt) : Prop where
  run : ∀ (X : Cx), Good c X → ∀ (G B H : Hp) (σ : St) (env : Env) (Q : Bool → Env → Prop) (Xq : XQ),
  RepEnv c G B H σ env → t env Q Xq → TakesC c X (WXo c G B σ env Xq) → TUt X e σ H (VQt c G B σ env Q)
/-- a chain of and, or -/
def TUw (X : Cx) (e : Expr) : TT := fun σ H Q => ∀ (whole : Sem Value) (pins : List (Addr × Obj)) (s : Shared), Inv X pins σ H s → wpAny (model X.prog X.w) X.A (isTrue e X.env whole) (TP X pins σ Q) X.xe s
theorem pw_tu {X : Cx} {e : Expr} : PW X e (TUw X e) := ⟨fun whole pins s σ H Q I h => h whole pins s I⟩
structure VW (c : Cfg) (e : Expr) (t : TTt) : Prop where
  run : ∀ (X : Cx), Good c X → ∀ (G B H : Hp) (σ : St) (env : Env) (Q : Bool → Env → Prop) (Xq : XQ),
  RepEnv c G B H σ env → t env Q Xq → TakesC c X (WXo c G B σ env Xq) → TUw X e σ H (VQt c G B σ env Q)
theorem TUw.of {X : Cx} {e : Expr} {t : TT} {σ : St} {H : Hp} {Q : Bool → Hp → Prop} (h : PW X e t) (q : t σ H Q) : TUw X e σ H Q := fun whole pins s I => h.run whole pins s σ H Q I q
theorem TUw.imp {X : Cx} {e : Expr} {σ : St} {H : Hp} {Q Q' : Bool → Hp → Prop} (h : TUw X e σ H Q) (q : ∀ v H', Q v H' → Q' v H') : TUw X e σ H Q' := fun whole pins s I =>
  thn (h whole pins s I) fun u s' ⟨H', I', z⟩ => ⟨H', I', q u H' z⟩
/-- arguments -/
inductive RepHs (c : Cfg) (G : Hp) (σ : St) : List V → List RV → Prop
  | nil : RepHs c G σ [] []
  | cons {v : V} {vs : List V} {r : RV} {rs : List RV} : RepH c G σ v r → RepHs c G σ vs rs → RepHs c G σ (v :: vs) (r :: rs)
theorem RepHs.mono {c : Cfg} {G G' : Hp} {σ : St} (s : Same G G') : ∀ {vs : List V} {rs : List RV}, RepHs c G σ vs rs → RepHs c G' σ vs rs
  | _, _, .nil => .nil
  | _, _, .cons h r => .cons (h.mono s) (RepHs.mono s r)
def TUa (X : Cx) (es : List Expr) : TA := fun σ H Q => ∀ (pos : Pos) (pins : List (Addr × Obj)) (s : Shared), Inv X pins σ H s → wpAny (model X.prog X.w) X.A (spliced (backTo pos (starEach es X.env))) (AP X pins σ Q) X.xe s
theorem pa_tu {X : Cx} {es : List Expr} : PA X es (TUa X es) := ⟨fun pos pins s σ H Q I h => h pos pins s I⟩
theorem TUa.of {X : Cx} {e : List Expr} {t : TA} {σ : St} {H : Hp} {Q : List V → Hp → Prop} (h : PA X e t) (q : t σ H Q) : TUa X e σ H Q := fun pos pins s I => h.run pos pins s σ H Q I q
theorem TUa.imp {X : Cx} {e : List Expr} {σ : St} {H : Hp} {Q Q' : List V → Hp → Prop} (h : TUa X e σ H Q) (q : ∀ v H', Q v H' → Q' v H') : TUa X e σ H Q' := fun pos pins s I =>
  thn (h pos pins s I) fun u s' ⟨v, H', I', r, z⟩ => ⟨v, H', I', r, q v H' z⟩
def VQa (c : Cfg) (G B : Hp) (σ : St) (env : Env) (Q : List RV → Env → Prop) : List V → Hp → Prop := fun vs H' =>
  ∃ rvs env' G', Q rvs env' ∧ RepEnv c G' B H' σ env' ∧ Ext B G G' ∧ Keeps env env' ∧ RepHs c G' σ vs rvs
theorem VQa.up {c : Cfg} {G B G1 : Hp} {σ : St} {env e1 : Env} {Q : List RV → Env → Prop} {v : List V} {H' : Hp} (h : VQa c G1 B σ e1 Q v H') (x : Ext B G G1) (k : Keeps env e1) : VQa c G B σ env Q v H' := by
  obtain ⟨rv, env', G', q, E, x', k', r⟩ := h
  exact ⟨rv, env', G', q, E, x.trans x', k.trans k', r⟩
structure VA (c : Cfg) (es : List Expr) (t : AT) : Prop where
  run : ∀ (X : Cx), Good c X → ∀ (G B H : Hp) (σ : St) (env : Env) (Q : List RV → Env → Prop) (Xq : XQ),
  RepEnv c G B H σ env → t env Q Xq → TakesC c X (WXo c G B σ env Xq) → TUa X es σ H (VQa c G B σ env Q)

/-! ### names, constants -/
def eVar (i : Nat) : ET := fun env Q _ => match env[i]? with
  | some (.val d) => Q (.val d) env
  | some (.own _) => Q (.slot i) env
  | some (.bor _) => Q (.slot i) env
  | _ => False
def eC (d : D) : ET := fun env Q _ => Q (.val d) env
def VisC (c : Cfg) (i : Nat) (x : Str) : Prop := c.N[i]? = some x ∧ Vis c.scope x ∧ (x == ("__debug__" : Str)) = false ∧ (x == ("__classdict__" : Str)) = false
section
variable {c : Cfg} {pos : Pos}
theorem ve_var {i : Nat} {x : Str} (h : VisC c i x) : VE c (.Name x pos) (eVar i) := by
  constructor
  intro X g G B H σ env Q Xq E q tk
  obtain ⟨h1, h2, h3, h4⟩ := h
  refine TU.of (pe_var (by rw [g.N]; exact h1) (by rw [g.scope]; exact h2) h3 h4) ?_
  unfold eVar at q
  split at q
  · rename_i d e
    obtain ⟨v, k1, k2⟩ := E.val i d e
    exact ⟨v, k1, _, env, G, q, E, Ext.refl _ _, Keeps.refl _, k2⟩
  · rename_i d e
    obtain ⟨a, o, k1, _⟩ := E.own i d e
    exact ⟨_, k1, _, env, G, q, E, Ext.refl _ _, Keeps.refl _, k1, d, by unfold rd; simp [e]⟩
  · rename_i d e
    obtain ⟨v, k1, _⟩ := E.bor i d e
    exact ⟨_, k1, _, env, G, q, E, Ext.refl _ _, Keeps.refl _, k1, d, by unfold rd; simp [e]⟩
  · exact q.elim
theorem ve_of {e : Expr} {d : D} {v : V} (h : ∀ X, Good c X → PE X e (tC v)) (r : Rep c.K c.w (fun _ => none) v d) : VE c e (eC d) := by
  constructor
  intro X g G B H σ env Q Xq E q tk
  refine TU.of (h X g) ?_
  exact ⟨_, env, G, q, E, Ext.refl _ _, Keeps.refl _, r.mono fun b o z => absurd (show (none : Option HO) = some o from z) (by simp)⟩
theorem ve_int {i : Int} {j : Nat} : VE c (.Constant (.int i) j pos) (eC (.int i)) := ve_of (fun _ _ => pe_int) (.int i)
theorem ve_bl {i : Bool} {j : Nat} : VE c (.Constant (.bool i) j pos) (eC (.bl i)) := ve_of (fun _ _ => pe_bl) (.bl i)
theorem ve_str {x : Str} {j : Nat} : VE c (.Constant (.str x) j pos) (eC (.str x)) := ve_of (fun _ _ => pe_str) (.str x)
/-- a name of the module -/
def GlC (c : Cfg) (x : Str) : Prop := c.scope.names.lookup x = some .globalImplicit
theorem GlC.gl {X : Cx} {x : Str} (g : Good c X) (h : GlC c x) : Gl X x := by
  show X.env.scope.names.lookup x = some .globalImplicit
  rw [g.scope]
  exact h
/-- a written constant -/
structure Glb (c : Cfg) (x : Str) (d : D) : Prop where
  ex : ∃ u v, c.mg x = some u ∧ RelV v u ∧ Rep c.K c.w (fun _ => none) v d
theorem ve_glb {x : Str} {d : D} (G : Glb c x d) (hg : GlC c x) (hd : (x == ("__debug__" : Str)) = false) : VE c (.Name x pos) (eC d) := by
  obtain ⟨u, v, h1, h2, h3⟩ := G.ex
  exact ve_of (fun X g => pe_glob (hg.gl g) (by rw [g.mg]; exact h1) h2 hd) h3
end

/-! ### operators -/
def eOp2 (op : D → D → (RV → Prop) → Prop) (ta tb : ET) : ET := fun env Q Xq => ta env (fun ra e1 => tb e1 (fun rb e2 => ∃ da db, rd e2 ra.hold = some da ∧ rd e2 rb = some db ∧ op da db fun r => Q r e2) Xq) Xq
def eOp1 (op : D → (RV → Prop) → Prop) (ta : ET) : ET := fun env Q Xq => ta env (fun ra e1 => ∃ da, rd e1 ra = some da ∧ op da fun r => Q r e1) Xq
def Fin (c : Cfg) (G H : Hp) (P : RV → Prop) (K : VK) : Prop := ∀ rv v G' H', P rv → Res G H G' H' → ResR c G' H H' v rv → K v H'
/-- an operation by values does what op says -/
def OpS2 (c : Cfg) (r : R2) (op : D → D → (RV → Prop) → Prop) : Prop := ∀ (G H : Hp) (x y : V) (da db : D) (P : RV → Prop) (K : VK), Same G H → RD c.K c.w H G x da → RD c.K c.w H G y db → op da db P → Fin c G H P K → r x y H K
def OpS1 (c : Cfg) (r : V → Hp → VK → Prop) (op : D → (RV → Prop) → Prop) : Prop := ∀ (G H : Hp) (x : V) (da : D) (P : RV → Prop) (K : VK), Same G H → RD c.K c.w H G x da → op da P → Fin c G H P K → r x H K
def OpSn (c : Cfg) (r : List V → Hp → VK → Prop) (op : List D → (RV → Prop) → Prop) : Prop := ∀ (G H : Hp) (xs : List V) (ds : List D) (P : RV → Prop) (K : VK), Same G H → Paired (fun x d => RD c.K c.w H G x d) xs ds → op ds P → Fin c G H P K → r xs H K
section
variable {c : Cfg}
theorem run2 {X : Cx} {a b : Expr} {ta tb : ET} {r : R2} {op : D → D → (RV → Prop) → Prop} (hs : OpS2 c r op) (ha : VE c a ta) (hb : VE c b tb) (g : Good c X) {G B H : Hp} {σ : St} {env : Env} {Q : RV → Env → Prop} {Xq : XQ}
    (E : RepEnv c G B H σ env) (q : eOp2 op ta tb env Q Xq) (tk : TakesC c X (WXo c G B σ env Xq)) {K : VK} (hK : ∀ v H', VQ c G B σ env Q v H' → K v H') : tOp r (TU X a) (TU X b) σ H K := by
  refine (ha.run X g G B H σ env _ Xq E q tk).imp fun x H1 ⟨ra, e1, G1, q1, E1, x1, k1, r1⟩ => ?_
  obtain ⟨G2, x2, E2, h2⟩ := r1.hold E1
  refine (hb.run X g G2 B H1 σ e1 _ Xq E2 q1 (takes_up tk (x1.trans x2) k1)).imp fun y H2 ⟨rb, e2, G3, q3, E3, x3, k3, r3⟩ => ?_
  obtain ⟨da, db, d1, d2, o⟩ := q3
  refine hs G3 H2 x y da db _ _ E3.gh (E3.rdH (h2.mono x3.1) d1) (E3.rdR r3 d2) o fun rv v G' H' p res rr => hK v H' ?_
  exact ⟨rv, e2, G', p, E3.go res, ((x1.trans x2).trans x3).trans (res.ext E3.bh), k1.trans k3, E3.goR res rr⟩
theorem ve_op1 {e a : Expr} {ta : ET} {r : V → Hp → VK → Prop} {op : D → (RV → Prop) → Prop} (hp : ∀ X, Good c X → PE X e (tUn r (TU X a))) (hs : OpS1 c r op) (ha : VE c a ta) : VE c e (eOp1 op ta) := by
  constructor
  intro X g G B H σ env Q Xq E q tk
  refine TU.of (hp X g) ?_
  refine (ha.run X g G B H σ env _ Xq E q tk).imp fun x H1 ⟨ra, e1, G1, q1, E1, x1, k1, r1⟩ => ?_
  obtain ⟨da, d1, o⟩ := q1
  refine hs G1 H1 x da _ _ E1.gh (E1.rdR r1 d1) o fun rv v G' H' p res rr => ?_
  exact ⟨rv, e1, G', p, E1.go res, x1.trans (res.ext E1.bh), k1, E1.goR res rr⟩
theorem ve_op2 {e a b : Expr} {ta tb : ET} {r : R2} {op : D → D → (RV → Prop) → Prop} (hp : ∀ X, Good c X → PE X e (tOp r (TU X a) (TU X b))) (hs : OpS2 c r op) (ha : VE c a ta) (hb : VE c b tb) : VE c e (eOp2 op ta tb) :=
  ⟨fun X g G B H σ env Q Xq E q tk => TU.of (hp X g) (run2 hs ha hb g E q tk fun _ _ h => h)⟩
/-- arguments, from the left -/
def aNil : AT := fun env Q _ => Q [] env
def aCons (t : ET) (r : AT) : AT := fun env Q Xq => t env (fun x e1 => r e1 (fun xs e2 => Q (x.hold :: xs) e2) Xq) Xq
theorem va_nil : VA c [] aNil := by
  constructor
  intro X g G B H σ env Q Xq E q tk
  exact TUa.of pa_nil ⟨[], env, G, q, E, Ext.refl _ _, Keeps.refl _, .nil⟩
def noStar : Expr → Bool
  | .Starred .. => false
  | _ => true
theorem star_cons {e : Expr} {es : List Expr} {env : PySem.Env} (h : noStar e = true) : starEach (e :: es) env = (false, eval e env) :: starEach es env := by
  cases e <;> first | rfl | cases h
theorem va_cons {e : Expr} {es : List Expr} {t : ET} {r : AT} (h1 : VE c e t) (h2 : VA c es r) (hn : noStar e = true := by rfl) : VA c (e :: es) (aCons t r) := by
  constructor
  intro X g G B H σ env Q Xq E q tk
  refine TUa.of (pa_cons (pe_tu (e := e)) (pa_tu (es := es)) (star_cons hn)) ?_
  refine (h1.run X g G B H σ env _ Xq E q tk).imp fun x H1 ⟨ra, e1, G1, q1, E1, x1, k1, r1⟩ => ?_
  obtain ⟨G2, x2, E2, p2⟩ := r1.hold E1
  refine (h2.run X g G2 B H1 σ e1 _ Xq E2 q1 (takes_up tk (x1.trans x2) k1)).imp fun ys H2 ⟨rs, e2, G3, q3, E3, x3, k3, r3⟩ => ?_
  exact ⟨_, e2, G3, q3, E3, (x1.trans x2).trans x3, k1.trans k3, .cons (p2.mono x3.1) r3⟩
def rds (env : Env) : List RV → Option (List D)
  | [] => some []
  | r :: rs => match rd env r, rds env rs with
    | some d, some ds => some (d :: ds)
    | _, _ => none
theorem RepEnv.rds {G B H : Hp} {σ : St} {env : Env} (E : RepEnv c G B H σ env) : ∀ {vs : List V} {rs : List RV} {ds : List D}, RepHs c G σ vs rs → VS.rds env rs = some ds → Paired (fun x d => RD c.K c.w H G x d) vs ds
  | _, _, _, .nil, e => by cases e; exact .nil
  | _, _, _, .cons h r, e => by
    unfold VS.rds at e
    split at e
    · rename_i d ds' e1 e2
      cases e
      exact .cons (E.rdH h e1) (RepEnv.rds E r e2)
    · cases e
def eOpn (op : List D → (RV → Prop) → Prop) (ta : AT) : ET := fun env Q Xq => ta env (fun rs e1 => ∃ ds, rds e1 rs = some ds ∧ op ds fun r => Q r e1) Xq
theorem ve_opn {e : Expr} {es : List Expr} {ta : AT} {r : List V → Hp → VK → Prop} {op : List D → (RV → Prop) → Prop} (hp : ∀ X, Good c X → PE X e (fun σ H Q => TUa X es σ H fun xs H1 => r xs H1 Q)) (hs : OpSn c r op) (ha : VA c es ta) : VE c e (eOpn op ta) := by
  constructor
  intro X g G B H σ env Q Xq E q tk
  refine TU.of (hp X g) ?_
  refine (ha.run X g G B H σ env _ Xq E q tk).imp fun x H1 ⟨ra, e1, G1, q1, E1, x1, k1, r1⟩ => ?_
  obtain ⟨ds, d1, o⟩ := q1
  refine hs G1 H1 x ds _ _ E1.gh (E1.rds r1 d1) o fun rv v G' H' p res rr => ?_
  exact ⟨rv, e1, G', p, E1.go res, x1.trans (res.ext E1.bh), k1, E1.goR res rr⟩
end
end VS

namespace VS
open PySem PySem.Spec L2

/-! ### results -/
section
variable {c : Cfg} {G H : Hp} {P : RV → Prop} {K : VK}
theorem Fin.val {d : D} {v : V} (f : Fin c G H P K) (s : Same G H) (p : P (.val d)) (r : Rep c.K c.w G v d) : K v H := f _ v G H p (Res.refl s) r
theorem Fin.tup {ds : List D} {vs : List V} (f : Fin c G H P K) (s : Same G H) (p : P (.val (.tup ds))) (r : RepL c.K c.w G vs ds) : ∀ a, H a = none → K (.ref a) (upd H a (.tup vs)) := fun a ha => by
  have ga : G a = none := s.free ha
  refine f _ (.ref a) (upd G a (.tup vs)) _ p ⟨same_new ha, same_new ga, fun b u q => ?_, fun b hb => ?_⟩ (.tup upd_same (r.mono (same_new ga)))
  · by_cases e : b = a
    · subst e
      rw [upd_same] at q
      cases q
      exact upd_same
    · rw [upd_ne e] at q
      rw [upd_ne e]
      exact s b u q
  · by_cases e : b = a
    · exact .inr (by rw [e]; exact Nu.of ha)
    · rw [upd_ne e] at hb
      exact .inl hb
theorem Fin.lst {ds : List D} {vs : List V} (f : Fin c G H P K) (s : Same G H) (p : P (.fr (.lst ds))) (r : RepL c.K c.w G vs ds) : ∀ a, H a = none → K (.ref a) (upd H a (.lst vs)) := fun a ha =>
  f _ (.ref a) G _ p ⟨same_new ha, Same.refl _, s.trans (same_new ha), fun b hb => .inl hb⟩ ⟨a, _, rfl, ha, s.free ha, upd_same, _, rfl, r⟩
theorem Fin.dicK {ds : List (D × D)} {vs : List (Key × V)} (f : Fin c G H P K) (s : Same G H) (p : P (.fr (.dic false ds))) (r : RepK c.K c.w G vs ds) : ∀ a, H a = none → K (.ref a) (upd H a (.dK vs)) := fun a ha =>
  f _ (.ref a) G _ p ⟨same_new ha, Same.refl _, s.trans (same_new ha), fun b hb => .inl hb⟩ ⟨a, _, rfl, ha, s.free ha, upd_same, _, rfl, r⟩
theorem Fin.dicT {ds : List (D × D)} {vs : List (List Key × V)} (f : Fin c G H P K) (s : Same G H) (p : P (.fr (.dic true ds))) (r : RepT c.K c.w G vs ds) : ∀ a, H a = none → K (.ref a) (upd H a (.dT vs)) := fun a ha =>
  f _ (.ref a) G _ p ⟨same_new ha, Same.refl _, s.trans (same_new ha), fun b hb => .inl hb⟩ ⟨a, _, rfl, ha, s.free ha, upd_same, _, rfl, r⟩
end

/-! ### + - * // % ** -/
def opAdd : D → D → (RV → Prop) → Prop
  | .int i, .int j, Q => Q (.val (.int (i + j)))
  | .str x, .str y, Q => x.length + y.length ≤ sizeLine ∧ Q (.val (.str (x ++ y)))
  | .tup x, .tup y, Q => x.length + y.length ≤ sizeLine ∧ Q (.val (.tup (x ++ y)))
  | .lst x, .lst y, Q => x.length + y.length ≤ sizeLine ∧ Q (.fr (.lst (x ++ y)))
  | _, _, _ => False
def opSub : D → D → (RV → Prop) → Prop
  | .int i, .int j, Q => Q (.val (.int (i - j)))
  | _, _, _ => False
def mulOk (i j : Int) : Prop := CMul i j ∨ CMulW i j
def opMul : D → D → (RV → Prop) → Prop
  | .int i, .int j, Q => mulOk i j ∧ Q (.val (.int (i * j)))
  | _, _, _ => False
def opDiv : D → D → (RV → Prop) → Prop
  | .int i, .int j, Q => CDivW i j ∧ Q (.val (.int (i / j)))
  | _, _, _ => False
def opMod : D → D → (RV → Prop) → Prop
  | .int i, .int j, Q => 0 < j ∧ Q (.val (.int (i % j)))
  | _, _, _ => False
def opPow : D → D → (RV → Prop) → Prop
  | .int i, .int j, Q => CPow i j ∧ Q (.val (.int (i ^ j.toNat)))
  | _, _, _ => False
/-- two lists, any that are read -/
def rCatL (K : PySem.W.Frag) : R2 := fun x y H Q => ∃ l b xs zs, x = .ref l ∧ y = .ref b ∧ SqL K H l xs ∧ SqL K H b zs ∧ xs.length + zs.length ≤ sizeLine ∧ ∀ p, H p = none → Q (.ref p) (upd H p (.lst (xs ++ zs)))
theorem add_listP {M : Model} {A : Around} {E : Value → Shared → Prop} {s : Shared} {a b : Addr} {xs ys : Array Value} {Q : Value → Shared → Prop} (ha : PlainL s.heap a xs) (hb : PlainL s.heap b ys)
    (h : ∀ {n m : Nat} {d d' : Option Addr} {sl sl' : Array (Option Value)}, s.heap.get? a = some ⟨.type "list", d, .seq xs n, sl⟩ → s.heap.get? b = some ⟨.type "list", d', .seq ys m, sl'⟩ → wpAny M A (binaryOp .Add (.ref a) (.ref b)) Q E s) : wpAny M A (binaryOp .Add (.ref a) (.ref b)) Q E s := by
  obtain ⟨⟨c1, d1, t1, sl1⟩, n, ho, hc, hd, hs⟩ := ha
  obtain ⟨⟨c2, d2, t2, sl2⟩, m, ho', hc', hd', hs'⟩ := hb
  simp only at hc hs hc' hs'
  subst hc hs hc' hs'
  exact h ho ho'
theorem op_catL {X : Cx} : OpR X (binaryOp .Add) (rCatL X.K) := by
  intro pins s σ H x y v u Q I rx ry h
  obtain ⟨l, b, xs, zs, rfl, rfl, hH, hB, hz, q⟩ := h
  cases rx
  cases ry
  obtain ⟨its, r, hl, e⟩ := I.list hH
  obtain ⟨its2, r2, hl2, e2⟩ := I.list hB
  have z1 := r.length
  have z2 := r2.length
  refine add_listP hl hl2 fun ho ho' => ?_
  refine PySem.concat_meets ⟨_, ho, rfl⟩ ⟨_, ho', rfl⟩ PySem.noFill_list_add PySem.seq_list_add PySem.F.slot_list_add PySem.F.entry_list_add (PySem.F.args_list_add_2 _ _) (PyProof.Rows.list_addW l b its.toArray its2.toArray _ _ _ _ _ _ (by rw [List.size_toArray, List.size_toArray]; omega)) ⟨ho, ho', ?_⟩
  have ea : its.toArray ++ its2.toArray = (its ++ its2).toArray := by simp
  rw [ea]
  exact ⟨.ref _, _, I.lnew (t' := s.toks) (r.append r2) (by rw [List.length_append]; omega), rfl, q _ I.fresh⟩
section
variable {c : Cfg}
def rAll (K : PySem.W.Frag) : R2 := fun x y H Q => rI0 (fun i j => .int (i + j)) x y H Q ∨ (∃ i j, x = .str i ∧ y = .str j ∧ i.length + j.length ≤ sizeLine ∧ Q (.str (i ++ j)) H) ∨ rCatA K x y H Q ∨ rCatL K x y H Q
theorem add_s : OpS2 c (rAll c.K) opAdd := by
  intro G H x y da db P K s rx ry o f
  cases da <;> cases db <;> try exact o.elim
  · cases rx; cases ry
    exact .inl ⟨_, _, rfl, rfl, f.val s o (.int _)⟩
  · cases rx; cases ry
    exact .inr (.inl ⟨_, _, rfl, rfl, o.1, f.val s o.2 (.str _)⟩)
  · rename_i xs ys
    have hx : Rep c.K c.w G x (.tup xs) := rx
    have hy : Rep c.K c.w G y (.tup ys) := ry
    cases hx with
    | @tup a vs _ h1 r1 =>
    cases hy with
    | @tup b us _ h2 r2 =>
    refine .inr (.inr (.inl ⟨a, b, vs, us, rfl, rfl, SqT.of (s _ _ h1), SqT.of (s _ _ h2), by rw [r1.length, r2.length]; exact o.1, fun e => ?_, fun _ e => ?_, fun _ _ => f.tup s o.2 (r1.append r2)⟩))
    · subst e
      cases r1
      exact f.val s o.2 ry
    · subst e
      cases r2
      exact f.val s o.2 (by rw [List.append_nil]; exact rx)
  · obtain ⟨a, vs, rfl, h1, r1⟩ := rx
    obtain ⟨b, us, rfl, h2, r2⟩ := ry
    exact .inr (.inr (.inr ⟨a, b, vs, us, rfl, rfl, h1, h2, by rw [r1.length, r2.length]; exact o.1, f.lst s o.2 (r1.append r2)⟩))

theorem int2 {r : R2} {op : D → D → (RV → Prop) → Prop} {C : Int → Int → Prop} {g : Int → Int → D} {v : Int → Int → V} (hg : ∀ i j, Rep c.K c.w (fun _ => none) (v i j) (g i j)) (ho : ∀ da db P, op da db P → ∃ i j, da = .int i ∧ db = .int j ∧ C i j ∧ P (.val (g i j)))
    (hr : ∀ i j H Q, C i j → Q (v i j) H → r (.int i) (.int j) H Q) : OpS2 c r op := by
  intro G H x y da db P K s rx ry o f
  obtain ⟨i, j, rfl, rfl, hc, p⟩ := ho da db P o
  cases rx; cases ry
  exact hr i j H K hc (f.val s p ((hg i j).mono fun b o z => absurd (show (none : Option HO) = some o from z) (by simp)))
theorem sub_s : OpS2 c (rI0 fun i j => .int (i - j)) opSub := int2 (C := fun _ _ => True) (fun i j => .int _) (fun da db P o => by
    cases da <;> cases db <;> (try exact False.elim o) <;> exact ⟨_, _, rfl, rfl, trivial, o⟩) fun i j H Q _ q => ⟨_, _, rfl, rfl, q⟩
def rMul : R2 := fun x y H Q => rI CMul (fun i j => .int (i * j)) x y H Q ∨ rI CMulW (fun i j => .int (i * j)) x y H Q
theorem mul_s : OpS2 c rMul opMul := int2 (C := mulOk) (fun i j => .int _) (fun da db P o => by
    cases da <;> cases db <;> (try exact False.elim o) <;> exact ⟨_, _, rfl, rfl, o⟩) fun i j H Q h q => h.elim (fun h => .inl ⟨_, _, rfl, rfl, h, q⟩) fun h => .inr ⟨_, _, rfl, rfl, h, q⟩
theorem div_s : OpS2 c (rI CDivW fun i j => .int (i / j)) opDiv := int2 (C := CDivW) (fun i j => .int _) (fun da db P o => by
    cases da <;> cases db <;> (try exact False.elim o) <;> exact ⟨_, _, rfl, rfl, o⟩) fun i j H Q h q => ⟨_, _, rfl, rfl, h, q⟩
theorem mod_s : OpS2 c (rI (fun _ j => 0 < j) fun i j => .int (i % j)) opMod := int2 (C := fun _ j => 0 < j) (fun i j => .int _) (fun da db P o => by
    cases da <;> cases db <;> (try exact False.elim o) <;> exact ⟨_, _, rfl, rfl, o⟩) fun i j H Q h q => ⟨_, _, rfl, rfl, h, q⟩
variable {pos : Pos} {a b : Expr} {ta tb : ET}
theorem ve_add (ha : VE c a ta) (hb : VE c b tb) : VE c (.BinOp a .Add b pos) (eOp2 opAdd ta tb) := ve_op2 (fun X g => by
  have h : OpR X (binaryOp .Add) (rAll c.K) := by
    rw [← g.K]
    exact op_add.or (op_add_str.or (op_catA.or op_catL))
  exact pe_op h pe_tu pe_tu) add_s ha hb
theorem ve_sub (ha : VE c a ta) (hb : VE c b tb) : VE c (.BinOp a .Sub b pos) (eOp2 opSub ta tb) := ve_op2 (fun X g => pe_op op_sub pe_tu pe_tu) sub_s ha hb
theorem ve_mul (ha : VE c a ta) (hb : VE c b tb) : VE c (.BinOp a .Mult b pos) (eOp2 opMul ta tb) := ve_op2 (fun X g => pe_op (op_mul.or op_mulW) pe_tu pe_tu) mul_s ha hb
theorem ve_div (ha : VE c a ta) (hb : VE c b tb) : VE c (.BinOp a .FloorDiv b pos) (eOp2 opDiv ta tb) := ve_op2 (fun X g => pe_op op_fdivW pe_tu pe_tu) div_s ha hb
theorem ve_mod (ha : VE c a ta) (hb : VE c b tb) : VE c (.BinOp a .Mod b pos) (eOp2 opMod ta tb) := ve_op2 (fun X g => pe_op op_mod pe_tu pe_tu) mod_s ha hb
def opNeg : D → (RV → Prop) → Prop
  | .int i, Q => Q (.val (.int (-i)))
  | _, _ => False
end

/-! ### == != -/
mutual
def D.toPy : D → PyData
  | .non => .none
  | .bl b => .bool b
  | .int i => .int i
  | .str x => .str x
  | .ty _ => .none
  | .tup xs => .tuple (D.toPyL xs)
  | .lst xs => .list (D.toPyL xs)
  | .dic _ _ => .none
  | .ktup xs => .tuple (D.toPyL xs)
  | .kdic _ => .none
  | .exc _ _ => .none
  | .dix _ => .none
  | .ins _ _ => .none
def D.toPyL : List D → List PyData
  | [] => []
  | d :: ds => D.toPy d :: D.toPyL ds
end
mutual
/-- data that is compared part by part: no truths, no types, no dicts; at most n deep -/
def D.okD : Nat → D → Bool
  | _, .non => true
  | _, .int _ => true
  | _, .str x => PyData.strOk x
  | 0, _ => false
  | n + 1, .tup xs => D.okL n xs
  | n + 1, .lst xs => D.okL n xs
  | _, _ => false
  termination_by structural _ d => d
def D.okL : Nat → List D → Bool
  | _, [] => true
  | n, d :: ds => D.okD n d && D.okL n ds
  termination_by structural _ d => d
end
mutual
theorem D.ok_lay : ∀ (n : Nat) (d : D), D.okD n d = true → d.toPy.canLay0 = true ∧ d.toPy.depth ≤ n
  | n, .non, _ => by simp [D.toPy, PyData.canLay0, PyData.depth]
  | n, .int _, _ => by simp [D.toPy, PyData.canLay0, PyData.depth]
  | n, .str x, h => by
    simp [D.okD] at h
    simp [D.toPy, PyData.canLay0, PyData.depth, h]
  | 0, .tup xs, h => by simp [D.okD] at h
  | 0, .lst xs, h => by simp [D.okD] at h
  | n, .bl _, h => by cases n <;> simp [D.okD] at h
  | n, .ty _, h => by cases n <;> simp [D.okD] at h
  | n, .dic _ _, h => by cases n <;> simp [D.okD] at h
  | n, .ktup _, h => by cases n <;> simp [D.okD] at h
  | n, .kdic _, h => by cases n <;> simp [D.okD] at h
  | n, .exc _ _, h => by cases n <;> simp [D.okD] at h
  | n, .dix _, h => by cases n <;> simp [D.okD] at h
  | n, .ins _ _, h => by cases n <;> simp [D.okD] at h
  | n + 1, .tup xs, h => by
    simp only [D.okD] at h
    have := D.okL_lay n xs h
    simp only [D.toPy, PyData.canLay0, PyData.depth]
    exact ⟨this.1, by omega⟩
  | n + 1, .lst xs, h => by
    simp only [D.okD] at h
    have := D.okL_lay n xs h
    simp only [D.toPy, PyData.canLay0, PyData.depth]
    exact ⟨this.1, by omega⟩
theorem D.okL_lay : ∀ (n : Nat) (ds : List D), D.okL n ds = true → PyData.canLayAll0 (D.toPyL ds) = true ∧ PyData.depthAll (D.toPyL ds) ≤ n
  | n, [], _ => by simp [D.toPyL, PyData.canLayAll0, PyData.depthAll]
  | n, d :: ds, h => by
    simp only [D.okL, Bool.and_eq_true] at h
    have h1 := D.ok_lay n d h.1
    have h2 := D.okL_lay n ds h.2
    simp only [D.toPyL, PyData.canLayAll0, PyData.depthAll, Bool.and_eq_true]
    exact ⟨⟨h1.1, h2.1⟩, by omega⟩
end
theorem D.shaped {d : D} (h : D.okD 60 d = true) : SeqAt.shaped d.toPy = true := by
  have := D.ok_lay 60 d h
  unfold SeqAt.shaped
  rw [Bool.and_eq_true]
  exact ⟨this.1, decide_eq_true (by omega)⟩
mutual
theorem D.eqv_iff : ∀ (n m : Nat) (a b : D), D.okD n a = true → D.okD m b = true → (PyData.eqv a.toPy b.toPy = true ↔ a = b)
  | n, m, a, b, ha, hb => by
    cases a <;> cases b <;> (try (cases n <;> simp [D.okD] at ha)) <;> (try (cases m <;> simp [D.okD] at hb)) <;> simp [D.toPy, PyData.eqv]
    all_goals first
      | exact D.eqvL_iff _ _ _ _ ha hb
      | skip
theorem D.eqvL_iff : ∀ (n m : Nat) (a b : List D), D.okL n a = true → D.okL m b = true → (PyData.eqvAll (D.toPyL a) (D.toPyL b) = true ↔ a = b)
  | n, m, a, b, ha, hb => by
    cases a <;> cases b <;> simp [D.toPyL, PyData.eqvAll]
    rename_i a as b bs
    simp only [D.okL, Bool.and_eq_true] at ha hb
    rw [D.eqv_iff n m a b ha.1 hb.1, D.eqvL_iff n m as bs ha.2 hb.2]
end
mutual
theorem Rep.dp {K : PySem.W.Frag} {w : World} {G : Hp} : ∀ {n : Nat} {v : V} {d : D}, Rep K w G v d → D.okD n d = true → Dp K G v d.toPy
  | _, _, _, .non, _ => by simp only [D.toPy]; exact .non
  | n, _, _, .bl b, h => by cases n <;> simp [D.okD] at h
  | _, _, _, .int i, _ => by simp only [D.toPy]; exact .int i
  | _, _, _, .str x, _ => by simp only [D.toPy]; exact .str x
  | n, _, _, .ty b, h => by cases n <;> simp [D.okD] at h
  | 0, _, _, .tup _ _, h => by simp [D.okD] at h
  | 0, _, _, .lst _ _, h => by simp [D.okD] at h
  | n, _, _, .ktup _ _, h => by cases n <;> simp [D.okD] at h
  | n + 1, _, _, .tup q r, h => by simp only [D.toPy]; exact .tup (SqT.of q) (RepL.dp r (by simpa only [D.okD] using h))
  | n + 1, _, _, .lst q r, h => by simp only [D.toPy]; exact .lst (.inl (.inl q)) (RepL.dp r (by simpa only [D.okD] using h))
  | n, _, _, .dicK _ _, h => by cases n <;> simp [D.okD] at h
  | n, _, _, .dicT _ _, h => by cases n <;> simp [D.okD] at h
  | n, _, _, .dicC _, h => by cases n <;> simp [D.okD] at h
  | n, _, _, .exc _ _ _ _, h => by cases n <;> simp [D.okD] at h
  | n, _, _, .dix _ _, h => by cases n <;> simp [D.okD] at h
  | n, _, _, .ins _ _ _ _, h => by cases n <;> simp [D.okD] at h
theorem RepL.dp {K : PySem.W.Frag} {w : World} {G : Hp} : ∀ {n : Nat} {v : List V} {d : List D}, RepL K w G v d → D.okL n d = true → DpAll K G v (D.toPyL d)
  | _, _, _, .nil, _ => by simp only [D.toPyL]; exact .nil
  | n, _, _, .cons q r, h => by
    simp only [D.okL, Bool.and_eq_true] at h
    simp only [D.toPyL]
    exact .cons (Rep.dp q h.1) (RepL.dp r h.2)
end
/-- a written tuple is compared as any tuple -/
def D.un : D → D
  | .ktup xs => .tup xs
  | d => d
theorem Rep.dpu {K : PySem.W.Frag} {w : World} {G : Hp} {n : Nat} {v : V} {d : D} (h : Rep K w G v d) (o : D.okD n d.un = true) : Dp K G v d.un.toPy := by
  cases d with
  | ktup xs =>
    cases h with
    | ktup q r =>
      cases n with
      | zero => simp [D.un, D.okD] at o
      | succ n =>
        simp only [D.un, D.toPy]
        exact .tup (.inr q) (RepL.dp r (by simpa only [D.un, D.okD] using o))
  | _ => exact Rep.dp h o
theorem RD.dp {K : PySem.W.Frag} {w : World} {G H : Hp} {n : Nat} {v : V} {d : D} (s : Same G H) (h : RD K w H G v d) (o : D.okD n d = true) : Dp K H v d.toPy := by
  cases d with
  | lst ds =>
    obtain ⟨a, vs, rfl, q, r⟩ := h
    cases n with
    | zero => simp [D.okD] at o
    | succ n =>
      simp only [D.toPy]
      exact .lst q (RepL.dp (r.mono s) (by simpa only [D.okD] using o))
  | _ => exact (RD.rep s h rfl).dp o
theorem RD.dpu {K : PySem.W.Frag} {w : World} {G H : Hp} {n : Nat} {v : V} {d : D} (s : Same G H) (h : RD K w H G v d) (o : D.okD n d.un = true) : Dp K H v d.un.toPy := by
  cases d with
  | lst ds => exact RD.dp s h o
  | _ => exact (RD.rep s h rfl).dpu o
def opEq : D → D → (RV → Prop) → Prop
  | .bl a, .bl b, Q => Q (.val (.bl (a == b)))
  | .str a, .str b, Q => Q (.val (.bl (decide (a = b))))
  | a, b, Q => D.okD 60 a.un = true ∧ D.okD 60 b.un = true ∧ Q (.val (.bl (decide (a.un = b.un))))
def opNe : D → D → (RV → Prop) → Prop
  | .bl a, .bl b, Q => Q (.val (.bl (!(a == b))))
  | .str a, .str b, Q => Q (.val (.bl (!decide (a = b))))
  | a, b, Q => D.okD 60 a.un = true ∧ D.okD 60 b.un = true ∧ Q (.val (.bl (!decide (a.un = b.un))))
section
variable {c : Cfg} {pos : Pos} {a b : Expr} {ta tb : ET}
theorem eqv_dec {a b : D} (ha : D.okD 60 a = true) (hb : D.okD 60 b = true) : PyData.eqv a.toPy b.toPy = decide (a = b) := by
  have h := D.eqv_iff 60 60 a b ha hb
  by_cases e : a = b
  · rw [decide_eq_true e]
    exact h.mpr e
  · rw [decide_eq_false e]
    cases q : PyData.eqv a.toPy b.toPy with
    | false => rfl
    | true => exact absurd (h.mp q) e
theorem dec_v {α : Type} [DecidableEq α] {f : α → V} (hf : ∀ a b, f a = f b → a = b) (a b : α) : decide (f a = f b) = decide (a = b) := by
  by_cases e : a = b
  · rw [decide_eq_true e, decide_eq_true (by rw [e])]
  · rw [decide_eq_false e, decide_eq_false fun q => e (hf _ _ q)]
theorem eq_s : OpS2 c (fun x y H Q => rEq x y H Q ∨ rEqD c.K x y H Q) opEq := by
  intro G H x y da db P K s rx ry o f
  unfold opEq at o
  split at o
  · cases rx; cases ry
    refine .inl ⟨rfl, f.val s ?_ (.bl _)⟩
    rw [dec_v (fun _ _ h => V.bl.inj h)]
    have e : ∀ a b : Bool, decide (a = b) = (a == b) := by decide
    rw [e]
    exact o
  · cases rx; cases ry
    refine .inl ⟨rfl, f.val s ?_ (.bl _)⟩
    rw [dec_v (fun _ _ h => V.str.inj h)]
    exact o
  · obtain ⟨h1, h2, p⟩ := o
    refine .inr ⟨_, _, RD.dpu s rx h1, RD.dpu s ry h2, D.shaped h1, D.shaped h2, f.val s ?_ (.bl _)⟩
    rw [eqv_dec h1 h2]
    exact p
theorem ne_s : OpS2 c (fun x y H Q => rNe x y H Q ∨ rNeD c.K x y H Q) opNe := by
  intro G H x y da db P K s rx ry o f
  unfold opNe at o
  split at o
  · cases rx; cases ry
    refine .inl ⟨rfl, f.val s ?_ (.bl _)⟩
    rw [dec_v (fun _ _ h => V.bl.inj h)]
    have e : ∀ a b : Bool, decide (a = b) = (a == b) := by decide
    rw [e]
    exact o
  · cases rx; cases ry
    refine .inl ⟨rfl, f.val s ?_ (.bl _)⟩
    rw [dec_v (fun _ _ h => V.str.inj h)]
    exact o
  · obtain ⟨h1, h2, p⟩ := o
    refine .inr ⟨_, _, RD.dpu s rx h1, RD.dpu s ry h2, D.shaped h1, D.shaped h2, f.val s ?_ (.bl _)⟩
    rw [eqv_dec h1 h2]
    exact p
theorem ve_eq (ha : VE c a ta) (hb : VE c b tb) : VE c (.Compare a [.Eq] [b] pos) (eOp2 opEq ta tb) := ve_op2 (fun X g => pe_cmpR (op_eq.or (by rw [← g.K]; exact op_eqD g.un)) pe_tu pe_tu (nomark _)) eq_s ha hb
/-- a value as a test -/
def tV (t : ET) : TTt := fun env Q Xq => t env (fun r e1 => ∃ b, r = .val (.bl b) ∧ Q b e1) Xq
theorem vt_pt {e : Expr} {t : ET} (h : VE c e t) (hp : ∀ (X : Cx) (te : TE), Good c X → PE X e te → PT X e (tB te)) : VT c e (tV t) := by
  constructor
  intro X g G B H σ env Q Xq E q tk
  refine TUt.of (hp X _ g (pe_tu (e := e))) ?_
  refine (h.run X g G B H σ env _ Xq E q tk).imp fun x H1 ⟨ra, e1, G1, q1, E1, x1, k1, r1⟩ => ?_
  obtain ⟨b, rfl, q⟩ := q1
  cases (show Rep c.K c.w G1 x (.bl b) from r1)
  exact ⟨b, rfl, e1, G1, q, E1, x1, k1⟩
theorem vt_val {e : Expr} {t : ET} (h : VE c e t) (he : ∀ (env : PySem.Env) (whole : Sem Value), isTrue e env whole = (do let v ← whole; standAt e.pos; holding [v] (truthy v)) := by intros; rfl) : VT c e (tV t) :=
  vt_pt h fun X te g p => pt_val p (he X.env)
theorem vt_op2 {op : CmpOp} {r : R2} {o : D → D → (RV → Prop) → Prop} (ho : ∀ X, Good c X → OpR X (compareOp op) r) (hs : OpS2 c r o) (hm : behindInMarks op b = false) (ha : VE c a ta) (hb : VE c b tb) : VT c (.Compare a [op] [b] pos) (tV (eOp2 o ta tb)) := by
  constructor
  intro X g G B H σ env Q Xq E q tk
  refine TUt.of (pt_cmpR (ho X g) (pe_tu (e := a)) (pe_tu (e := b)) hm) ?_
  refine run2 (Q := fun r e1 => ∃ b, r = .val (.bl b) ∧ Q b e1) hs ha hb g E q tk fun v H' z => ?_
  obtain ⟨rv, e1, G1, ⟨k, rfl, q⟩, E1, x1, k1, r1⟩ := z
  cases (show Rep c.K c.w G1 v (.bl k) from r1)
  exact ⟨k, rfl, e1, G1, q, E1, x1, k1⟩
theorem vt_eq (ha : VE c a ta) (hb : VE c b tb) : VT c (.Compare a [.Eq] [b] pos) (tV (eOp2 opEq ta tb)) := vt_op2 (fun X g => op_eq.or (by rw [← g.K]; exact op_eqD g.un)) eq_s (nomark _) ha hb
theorem vt_ne (ha : VE c a ta) (hb : VE c b tb) : VT c (.Compare a [.NotEq] [b] pos) (tV (eOp2 opNe ta tb)) := vt_op2 (fun X g => op_ne.or (by rw [← g.K]; exact op_neD g.un)) ne_s (nomark _) ha hb
end
end VS

namespace VS
open PySem PySem.Spec L2

/-! ### orders of numbers and texts -/
def opCmp (fi : Int → Int → Bool) (fs : Str → Str → Bool) : D → D → (RV → Prop) → Prop
  | .int i, .int j, Q => Q (.val (.bl (fi i j)))
  | .str i, .str j, Q => Q (.val (.bl (fs i j)))
  | _, _, _ => False
section
variable {c : Cfg} {pos : Pos} {a b : Expr} {ta tb : ET}
theorem cmp_s {fi : Int → Int → Bool} {fs : Str → Str → Bool} : OpS2 c (fun x y H Q => rI0 (fun i j => .bl (fi i j)) x y H Q ∨ (fun x y H Q => ∃ i j, x = .str i ∧ y = .str j ∧ Q (.bl (fs i j)) H) x y H Q) (opCmp fi fs) := by
  intro G H x y da db P K s rx ry o f
  cases da <;> cases db <;> try exact False.elim o
  · cases rx; cases ry
    exact .inl ⟨_, _, rfl, rfl, f.val s o (.bl _)⟩
  · cases rx; cases ry
    exact .inr ⟨_, _, rfl, rfl, f.val s o (.bl _)⟩
abbrev opLt := opCmp (fun i j => decide (i < j)) fun i j => decide (i.cps.toList < j.cps.toList)
abbrev opGt := opCmp (fun i j => decide (j < i)) fun i j => decide (j.cps.toList < i.cps.toList)
abbrev opLe := opCmp (fun i j => decide (i ≤ j)) fun i j => !decide (j.cps.toList < i.cps.toList)
abbrev opGe := opCmp (fun i j => decide (j ≤ i)) fun i j => !decide (i.cps.toList < j.cps.toList)
theorem vt_gt (ha : VE c a ta) (hb : VE c b tb) : VT c (.Compare a [.Gt] [b] pos) (tV (eOp2 opGt ta tb)) := vt_op2 (fun X g => op_gt.or op_gt_str) cmp_s (nomark _) ha hb
end

/-! ### dicts by keys -/
def isK : D → Bool
  | .int _ => true
  | .str _ => true
  | _ => false
def isKT : D → Bool
  | .tup xs => xs.all isK
  | _ => false
theorem isK_key : ∀ {d : D}, isK d = true → ∃ k, d = keyD k
  | .int i, _ => ⟨.inl i, rfl⟩
  | .str i, _ => ⟨.inr i, rfl⟩
theorem isK_keys : ∀ {ds : List D}, ds.all isK = true → ∃ ks : List Key, ds = ks.map keyD
  | [], _ => ⟨[], rfl⟩
  | d :: ds, h => by
    rw [List.all_cons, Bool.and_eq_true] at h
    obtain ⟨k, rfl⟩ := isK_key h.1
    obtain ⟨ks, rfl⟩ := isK_keys h.2
    exact ⟨k :: ks, rfl⟩
theorem isKT_keys {d : D} (h : isKT d = true) : ∃ ks, d = keysD ks := by
  cases d <;> try (simp [isKT] at h)
  rename_i xs
  obtain ⟨ks, e⟩ := isK_keys (ds := xs) (by simpa [isKT] using h)
  exact ⟨ks, by rw [e]; rfl⟩
def dget (kvs : List (D × D)) (k : D) : Option D := (kvs.find? fun p => decide (p.1 = k)).map (·.2)
def dput (kvs : List (D × D)) (k v : D) : List (D × D) := if (kvs.any fun p => decide (p.1 = k)) = true then kvs.map fun p => if p.1 = k then (p.1, v) else p else kvs ++ [(k, v)]
/-- the key is of the dict's kind -/
def keyOk (t : Bool) (k : D) : Bool := if t then isKT k else isK k
def RelD (K : PySem.W.Frag) (w : World) (G : Hp) : Option V → Option D → Prop
  | some v, some d => Rep K w G v d
  | none, none => True
  | _, _ => False
section
variable {K : PySem.W.Frag} {w : World} {G H : Hp}
theorem dget_cons (p : D × D) (r : List (D × D)) (k : D) : dget (p :: r) k = if p.1 = k then some p.2 else dget r k := by
  unfold dget
  rw [List.find?_cons]
  by_cases e : p.1 = k
  · simp [e]
  · simp [e]
theorem RepK.val : ∀ {vs : List (Key × V)} {ds : List (D × D)}, RepK K w G vs ds → ∀ k, RelD K w G (valV vs k) (dget ds (keyD k))
  | _, _, .nil, k => trivial
  | _, _, .cons (k := j) h r, k => by
    rw [dget_cons]
    by_cases e : j = k
    · subst e
      rw [valV_pos rfl, if_pos rfl]
      exact h
    · rw [valV_neg e, if_neg fun q => e (keyD_inj q)]
      exact RepK.val r k
theorem RepT.val : ∀ {vs : List (List Key × V)} {ds : List (D × D)}, RepT K w G vs ds → ∀ k, RelD K w G (valV vs k) (dget ds (keysD k))
  | _, _, .nil, k => trivial
  | _, _, .cons (k := j) h r, k => by
    rw [dget_cons]
    by_cases e : j = k
    · subst e
      rw [valV_pos rfl, if_pos rfl]
      exact h
    · rw [valV_neg e, if_neg fun q => e (keysD_inj q)]
      exact RepT.val r k
theorem RepC.val {a : Addr} : ∀ {ds : List (D × D)}, RepC K w G a ds → ∀ {k d : D}, dget ds k = some d → ∃ x v, k = .str x ∧ KDct K w a x v ∧ Rep K w G v d
  | _, .nil, k, d, e => by cases e
  | _, .cons (x := x) (v := v) h q r, k, d, e => by
    rw [dget_cons] at e
    by_cases ek : D.str x = k
    · rw [if_pos ek] at e
      cases e
      exact ⟨x, v, ek.symm, h, q⟩
    · rw [if_neg ek] at e
      exact RepC.val r e
theorem RelD.some_of {o : Option V} {d : D} (h : RelD K w G o (some d)) : ∃ v, o = some v ∧ Rep K w G v d := by
  cases o with
  | none => exact h.elim
  | some v => exact ⟨v, rfl, h⟩
theorem RelD.isSome {o : Option V} {d : Option D} (h : RelD K w G o d) : o.isSome = d.isSome := by
  cases o <;> cases d <;> first | rfl | exact h.elim
theorem RepK.any {vs : List (Key × V)} {ds : List (D × D)} (h : RepK K w G vs ds) (k : Key) : (vs.any fun p => decide (p.1 = k)) = ds.any fun p => decide (p.1 = keyD k) := by
  induction vs generalizing ds with
  | nil => cases h; rfl
  | cons p vs ih =>
    cases h with
    | cons q r =>
      rw [List.any_cons, List.any_cons, ih r]
      congr 1
      rename_i j _ _ _
      by_cases e : j = k
      · subst e; simp
      · rw [decide_eq_false (show ¬ (j, _).1 = k from e), decide_eq_false (show ¬ (keyD j, _).1 = keyD k from fun z => e (keyD_inj z))]
theorem RepT.any {vs : List (List Key × V)} {ds : List (D × D)} (h : RepT K w G vs ds) (k : List Key) : (vs.any fun p => decide (p.1 = k)) = ds.any fun p => decide (p.1 = keysD k) := by
  induction vs generalizing ds with
  | nil => cases h; rfl
  | cons p vs ih =>
    cases h with
    | cons q r =>
      rw [List.any_cons, List.any_cons, ih r]
      congr 1
      rename_i j _ _ _
      by_cases e : j = k
      · subst e; simp
      · rw [decide_eq_false (show ¬ (j, _).1 = k from e), decide_eq_false (show ¬ (keysD j, _).1 = keysD k from fun z => e (keysD_inj z))]
theorem RepK.snoc {vs : List (Key × V)} {ds : List (D × D)} (h : RepK K w G vs ds) {k : Key} {v : V} {d : D} (r : Rep K w G v d) : RepK K w G (vs ++ [(k, v)]) (ds ++ [(keyD k, d)]) := by
  induction vs generalizing ds with
  | nil => cases h; exact .cons r .nil
  | cons p vs ih =>
    cases h with
    | cons q t => exact .cons q (ih t)
theorem RepT.snoc {vs : List (List Key × V)} {ds : List (D × D)} (h : RepT K w G vs ds) {k : List Key} {v : V} {d : D} (r : Rep K w G v d) : RepT K w G (vs ++ [(k, v)]) (ds ++ [(keysD k, d)]) := by
  induction vs generalizing ds with
  | nil => cases h; exact .cons r .nil
  | cons p vs ih =>
    cases h with
    | cons q t => exact .cons q (ih t)
theorem RepK.repl {vs : List (Key × V)} {ds : List (D × D)} (h : RepK K w G vs ds) {k : Key} {v : V} {d : D} (r : Rep K w G v d) : RepK K w G (vs.map fun p => if p.1 = k then (p.1, v) else p) (ds.map fun p => if p.1 = keyD k then (p.1, d) else p) := by
  induction vs generalizing ds with
  | nil => cases h; exact .nil
  | cons p vs ih =>
    cases h with
    | cons q t =>
      rename_i j u _ _
      rw [List.map_cons, List.map_cons]
      by_cases e : j = k
      · subst e
        rw [if_pos rfl, if_pos rfl]
        exact .cons r (ih t)
      · rw [if_neg (show ¬ (j, _).1 = k from e), if_neg (show ¬ (keyD j, _).1 = keyD k from fun z => e (keyD_inj z))]
        exact .cons q (ih t)
theorem RepT.repl {vs : List (List Key × V)} {ds : List (D × D)} (h : RepT K w G vs ds) {k : List Key} {v : V} {d : D} (r : Rep K w G v d) : RepT K w G (vs.map fun p => if p.1 = k then (p.1, v) else p) (ds.map fun p => if p.1 = keysD k then (p.1, d) else p) := by
  induction vs generalizing ds with
  | nil => cases h; exact .nil
  | cons p vs ih =>
    cases h with
    | cons q t =>
      rename_i j u _ _
      rw [List.map_cons, List.map_cons]
      by_cases e : j = k
      · subst e
        rw [if_pos rfl, if_pos rfl]
        exact .cons r (ih t)
      · rw [if_neg (show ¬ (j, _).1 = k from e), if_neg (show ¬ (keysD j, _).1 = keysD k from fun z => e (keysD_inj z))]
        exact .cons q (ih t)
theorem RepK.put {vs : List (Key × V)} {ds : List (D × D)} (h : RepK K w G vs ds) {k : Key} {v : V} {d : D} (r : Rep K w G v d) : RepK K w G (putK vs k v) (dput ds (keyD k) d) := by
  unfold putK dput
  rw [← h.any k]
  split
  · exact h.repl r
  · exact h.snoc r
theorem RepT.put {vs : List (List Key × V)} {ds : List (D × D)} (h : RepT K w G vs ds) {k : List Key} {v : V} {d : D} (r : Rep K w G v d) : RepT K w G (putK vs k v) (dput ds (keysD k) d) := by
  unfold putK dput
  rw [← h.any k]
  split
  · exact h.repl r
  · exact h.snoc r
theorem RepK.length {vs : List (Key × V)} {ds : List (D × D)} (h : RepK K w G vs ds) : vs.length = ds.length := by
  induction vs generalizing ds with
  | nil => cases h; rfl
  | cons p vs ih => cases h with | cons q t => rw [List.length_cons, List.length_cons, ih t]
theorem RepT.length {vs : List (List Key × V)} {ds : List (D × D)} (h : RepT K w G vs ds) : vs.length = ds.length := by
  induction vs generalizing ds with
  | nil => cases h; rfl
  | cons p vs ih => cases h with | cons q t => rw [List.length_cons, List.length_cons, ih t]
/-- the values of a key tuple -/
theorem RepL.keys : ∀ {vs : List V} {ks : List Key}, RepL K w G vs (ks.map keyD) → vs = ks.map kV
  | _, [], h => by cases h; rfl
  | _, k :: ks, h => by
    cases h with
    | cons q r =>
      rw [RepL.keys r, List.map_cons]
      cases k with
      | inl i => cases q; rfl
      | inr i => cases q; rfl
theorem Rep.key {v : V} {k : Key} (h : Rep K w G v (keyD k)) : v = kV k := by
  cases k with
  | inl i => cases h; rfl
  | inr i => cases h; rfl
theorem Rep.keys {v : V} {k : List Key} (h : Rep K w G v (keysD k)) : ∃ b, v = .ref b ∧ G b = some (.tup (k.map kV)) := by
  unfold keysD at h
  cases h with
  | @tup a vs _ q r =>
    rw [RepL.keys r] at q
    exact ⟨a, rfl, q⟩
/-- a[k], k in a -/
theorem RD.get {v y : V} {t : Bool} {ds : List (D × D)} {k : D} (s : Same G H) (h : RD K w H G v (.dic t ds)) (hk : keyOk t k = true) (r : Rep K w G y k) : ∃ a o, v = .ref a ∧ DGet H a y o ∧ RelD K w G o (dget ds k) := by
  cases t with
  | false =>
    obtain ⟨κ, rfl⟩ := isK_key (d := k) hk
    obtain ⟨a, kvs, rfl, q, rr⟩ := h
    exact ⟨a, _, rfl, .inl ⟨kvs, κ, q, Rep.key r, rfl⟩, rr.val κ⟩
  | true =>
    obtain ⟨κ, rfl⟩ := isKT_keys (d := k) hk
    obtain ⟨a, kvs, rfl, q, rr⟩ := h
    obtain ⟨b, rfl, hb⟩ := Rep.keys r
    exact ⟨a, _, rfl, .inr ⟨kvs, κ, b, q, rfl, s _ _ hb, rfl⟩, rr.val κ⟩
theorem keyOk_rep {t : Bool} {k : D} {v : V} (hk : keyOk t k = true) (h : RD K w H G v k) : Rep K w G v k := by
  cases t with
  | false =>
    obtain ⟨κ, rfl⟩ := isK_key (d := k) hk
    cases κ <;> exact h
  | true =>
    obtain ⟨κ, rfl⟩ := isKT_keys (d := k) hk
    exact h
end

/-! ### subscripts -/
def opIdx : D → D → (RV → Prop) → Prop
  | .lst xs, .int i, Q => ∃ d, atI xs i = some d ∧ Q (.val d)
  | .tup xs, .int i, Q => ∃ d, atI xs i = some d ∧ Q (.val d)
  | .ktup xs, .int i, Q => ∃ d, atI xs i = some d ∧ Q (.val d)
  | .str z, .int i, Q => z.length ≤ sizeLine ∧ ∃ c, atI z.cps.toList i = some c ∧ Q (.val (.str ⟨#[c]⟩))
  | .dic t kvs, k, Q => keyOk t k = true ∧ ∃ d, dget kvs k = some d ∧ Q (.val d)
  | .kdic kvs, k, Q => ∃ d, dget kvs k = some d ∧ Q (.val d)
  | _, _, _ => False
def rDGet : R2 := fun x y H Q => ∃ a v, x = .ref a ∧ DGet H a y (some v) ∧ Q v H
theorem ix_dget {X : Cx} (hu : X.A.units + 1 < cLine) : IxR X rDGet := by
  intro value slice pins s σ H x y v u Q I rx ry h hs
  obtain ⟨a, z, rfl, g, q⟩ := h
  obtain rfl : v = Value.ref a := rx
  exact PyProof.Rows.tail_any (dict_typeIs I g) PySem.F.slot_dict_getitem.lookup (d_getItem hu I g ry fun w' s3 I3 rw' => ⟨z, H, I3, rw', q⟩) hs
def rIdx (K : PySem.W.Frag) (w : World) : R2 := fun x y H Q => rIx K x y H Q ∨ rIxD K w x y H Q ∨ rDGet x y H Q
theorem RepL.atI {K : PySem.W.Frag} {w : World} {G : Hp} {vs : List V} {ds : List D} (r : RepL K w G vs ds) {i : Int} {d : D} (e : L2.atI ds i = some d) : ∃ v, L2.atI vs i = some v ∧ Rep K w G v d := by
  unfold L2.atI at e ⊢
  rw [r.length]
  cases q : ixN ds.length i with
  | none => rw [q] at e; cases e
  | some j =>
    rw [q] at e
    exact r.get (i := j) e
section
variable {c : Cfg} {pos : Pos} {a b : Expr} {ta tb : ET}
theorem idx_s : OpS2 c (rIdx c.K c.w) opIdx := by
  intro G H x y da db P K s rx ry o f
  unfold opIdx at o
  split at o
  · obtain ⟨d, e, p⟩ := o
    obtain ⟨p', vs, rfl, q, r⟩ := rx
    cases ry
    obtain ⟨v, e1, r1⟩ := r.atI e
    exact .inl (.inl ⟨_, _, _, v, rfl, rfl, q, e1, f.val s p r1⟩)
  · obtain ⟨d, e, p⟩ := o
    cases (show Rep c.K c.w G x _ from rx) with
    | tup q r =>
    cases ry
    obtain ⟨v, e1, r1⟩ := r.atI e
    exact .inl (.inr (.inl ⟨_, _, _, v, rfl, rfl, SqT.of (s _ _ q), e1, f.val s p r1⟩))
  · obtain ⟨d, e, p⟩ := o
    cases (show Rep c.K c.w G x _ from rx) with
    | ktup q r =>
    cases ry
    obtain ⟨v, e1, r1⟩ := r.atI e
    exact .inl (.inr (.inl ⟨_, _, _, v, rfl, rfl, .inr q, e1, f.val s p r1⟩))
  · obtain ⟨hz, ch, e, p⟩ := o
    cases rx
    cases ry
    exact .inl (.inr (.inr ⟨_, _, _, rfl, rfl, hz, e, f.val s p (.str _)⟩))
  · obtain ⟨hk, d, e, p⟩ := o
    obtain ⟨a, ov, rfl, g, rel⟩ := RD.get s rx hk (keyOk_rep hk ry)
    rw [e] at rel
    obtain ⟨v, rfl, rv⟩ := rel.some_of
    exact .inr (.inr ⟨a, v, rfl, g, f.val s p rv⟩)
  · obtain ⟨d, e, p⟩ := o
    cases (show Rep c.K c.w G x _ from rx) with
    | dicC q =>
    obtain ⟨z, v, rfl, hq, rv⟩ := q.val e
    cases ry
    exact .inr (.inl ⟨_, z, v, rfl, rfl, hq, f.val s p rv⟩)
  · exact o.elim
def notSlice : Expr → Bool
  | .Slice .. => false
  | _ => true
theorem plainIx {b : Expr} (h : notSlice b = true) : PlainIx b := fun o i => by
  cases b <;> first | rfl | cases h
theorem ve_idx (ha : VE c a ta) (hb : VE c b tb) (hn : notSlice b = true := by rfl) : VE c (.Subscript a b pos) (eOp2 opIdx ta tb) := ve_op2 (fun X g => by
  have h : IxR X (rIdx c.K c.w) := by
    rw [← g.K, ← g.w]
    exact ix_seq.or (ix_kdict.or (ix_dget (g.hu)))
  exact pe_ix h pe_tu pe_tu (plainIx hn)) idx_s ha hb

/-! ### in -/
def opIn (neg : Bool) : D → D → (RV → Prop) → Prop
  | k, .dic t kvs, Q => t = t ∧ keyOk t k = true ∧ Q (.val (.bl (neg ^^ (dget kvs k).isSome)))
  | .str x, .str z, Q => ∃ ch, x = ⟨#[ch]⟩ ∧ Q (.val (.bl (neg ^^ (decide (ch ∈ z.cps.toList)))))
  | d, .lst ds, Q => D.okD 59 d = true ∧ D.okL 59 ds = true ∧ Q (.val (.bl (neg ^^ (decide (d ∈ ds)))))
  | d, .tup ds, Q => D.okD 0 d = true ∧ D.okL 0 ds = true ∧ Q (.val (.bl (neg ^^ (decide (d ∈ ds)))))
  | d, .ktup ds, Q => D.okD 0 d = true ∧ D.okL 0 ds = true ∧ Q (.val (.bl (neg ^^ (decide (d ∈ ds)))))
  | _, _, _ => False
def rInA (K : PySem.W.Frag) : R2 := fun x y H Q =>
  (∃ a o, y = .ref a ∧ DGet H a x o ∧ Q (.bl o.isSome) H) ∨ (∃ (c : Nat) (z : Str), x = .str ⟨#[c]⟩ ∧ y = .str z ∧ Q (.bl (decide (c ∈ z.cps.toList))) H) ∨ rIn K false x y H Q ∨ rInD K x y H Q
def rNotInA (K : PySem.W.Frag) : R2 := fun x y H Q =>
  (∃ a o, y = .ref a ∧ DGet H a x o ∧ Q (.bl (!o.isSome)) H) ∨ (∃ (c : Nat) (z : Str), x = .str ⟨#[c]⟩ ∧ y = .str z ∧ Q (.bl (!decide (c ∈ z.cps.toList))) H) ∨ rIn K true x y H Q ∨ rNotInD K x y H Q
theorem op_inDic {X : Cx} (hu : X.A.units + 1 < cLine) : OpR X (compareOp .In) (fun x y H Q => ∃ a o, y = .ref a ∧ DGet H a x o ∧ Q (.bl o.isSome) H) := by
  intro pins s σ H x y v u Q I rx ry h
  obtain ⟨a, o, rfl, g, q⟩ := h
  obtain rfl : u = Value.ref a := ry
  exact d_in hu I g rx fun s3 I3 => ⟨.bl o.isSome, H, I3, rfl, q⟩
theorem op_notInDic {X : Cx} (hu : X.A.units + 1 < cLine) : OpR X (compareOp .NotIn) (fun x y H Q => ∃ a o, y = .ref a ∧ DGet H a x o ∧ Q (.bl (!o.isSome)) H) := by
  intro pins s σ H x y v u Q I rx ry h
  obtain ⟨a, o, rfl, g, q⟩ := h
  obtain rfl : u = Value.ref a := ry
  exact d_notIn hu I g rx fun s3 I3 => ⟨.bl (!o.isSome), H, I3, rfl, q⟩
theorem ok0_nl {d : D} (h : D.okD 0 d = true) : d.isL = false := by cases d <;> first | rfl | (simp [D.okD] at h)
theorem ok0_flat {K : PySem.W.Frag} {w : World} {G : Hp} : ∀ {d : D} {v : V}, D.okD 0 d = true → Rep K w G v d → flatV v = true
  | .non, _, _, .non => rfl
  | .int _, _, _, .int _ => rfl
  | .str _, _, _, .str _ => rfl
  | .bl _, _, h, _ => by simp [D.okD] at h
  | .ty _, _, h, _ => by simp [D.okD] at h
  | .tup _, _, h, _ => by simp [D.okD] at h
  | .lst _, _, h, _ => by simp [D.okD] at h
  | .dic _ _, _, h, _ => by simp [D.okD] at h
  | .ktup _, _, h, _ => by simp [D.okD] at h
  | .kdic _, _, h, _ => by simp [D.okD] at h
  | .exc _ _, _, h, _ => by simp [D.okD] at h
  | .dix _, _, h, _ => by simp [D.okD] at h
  | .ins _ _, _, h, _ => by simp [D.okD] at h
theorem okL_mem {n : Nat} : ∀ {ds : List D}, D.okL n ds = true → ∀ d ∈ ds, D.okD n d = true
  | d :: ds, h, e, he => by
    simp only [D.okL, Bool.and_eq_true] at h
    rcases List.mem_cons.mp he with rfl | he
    · exact h.1
    · exact okL_mem h.2 e he
theorem flats {K : PySem.W.Frag} {w : World} {G : Hp} : ∀ {ds : List D} {vs : List V}, D.okL 0 ds = true → RepL K w G vs ds → vs.all flatV = true
  | [], _, _, .nil => rfl
  | d :: ds, _, h, .cons q r => by
    simp only [D.okL, Bool.and_eq_true] at h
    rw [List.all_cons, ok0_flat h.1 q, flats h.2 r]
    rfl
theorem eqV_flat {K : PySem.W.Frag} {w : World} {G : Hp} {a b : V} {d e : D} (hd : D.okD 0 d = true) (he : D.okD 0 e = true) (ra : Rep K w G a d) (rb : Rep K w G b e) : eqV a b = decide (d = e) := by
  cases ra <;> (try (simp [D.okD] at hd; done)) <;> cases rb <;> (try (simp [D.okD] at he; done)) <;> simp [eqV]
  all_goals (rename_i i j; by_cases e : i = j <;> simp [e])
theorem inV_flat {K : PySem.W.Frag} {w : World} {G : Hp} {x : V} {d : D} (hd : D.okD 0 d = true) (rx : Rep K w G x d) : ∀ {ds : List D} {vs : List V}, D.okL 0 ds = true → RepL K w G vs ds → inV x vs = decide (d ∈ ds)
  | [], _, _, .nil => by simp [inV]
  | e :: ds, _, h, .cons q r => by
    simp only [D.okL, Bool.and_eq_true] at h
    have ih := inV_flat hd rx h.2 r
    unfold inV at ih ⊢
    rw [List.any_cons, ih, eqV_flat h.1 hd q rx]
    by_cases z : e = d
    · subst z; simp
    · simp [z, Ne.symm z]
theorem anyD {d : D} (hd : D.okD 60 d = true) : ∀ {ds : List D}, D.okL 60 ds = true → ((D.toPyL ds).any fun z => PyData.eqv z d.toPy) = decide (d ∈ ds)
  | [], _ => by simp [D.toPyL]
  | e :: ds, h => by
    simp only [D.okL, Bool.and_eq_true] at h
    rw [D.toPyL, List.any_cons, anyD hd h.2, eqv_dec h.1 hd]
    by_cases z : e = d
    · subst z; simp
    · simp [z, Ne.symm z]
mutual
theorem okD_up {m : Nat} : ∀ (n : Nat) (d : D), D.okD n d = true → n ≤ m → D.okD m d = true
  | n, .non, _, _ => by cases m <;> rfl
  | n, .int _, _, _ => by cases m <;> rfl
  | n, .str _, h, _ => by
    simp only [D.okD] at h
    cases m <;> simpa only [D.okD] using h
  | n, .bl _, h, _ => by cases n <;> simp [D.okD] at h
  | n, .ty _, h, _ => by cases n <;> simp [D.okD] at h
  | n, .dic _ _, h, _ => by cases n <;> simp [D.okD] at h
  | n, .ktup _, h, _ => by cases n <;> simp [D.okD] at h
  | n, .kdic _, h, _ => by cases n <;> simp [D.okD] at h
  | n, .exc _ _, h, _ => by cases n <;> simp [D.okD] at h
  | n, .dix _, h, _ => by cases n <;> simp [D.okD] at h
  | n, .ins _ _, h, _ => by cases n <;> simp [D.okD] at h
  | 0, .tup _, h, _ => by simp [D.okD] at h
  | 0, .lst _, h, _ => by simp [D.okD] at h
  | n + 1, .tup xs, h, l => by
    cases m with
    | zero => omega
    | succ m =>
      simp only [D.okD] at h ⊢
      exact okL_up n xs h (by omega)
  | n + 1, .lst xs, h, l => by
    cases m with
    | zero => omega
    | succ m =>
      simp only [D.okD] at h ⊢
      exact okL_up n xs h (by omega)
theorem okL_up {m : Nat} : ∀ (n : Nat) (d : List D), D.okL n d = true → n ≤ m → D.okL m d = true
  | n, [], _, _ => rfl
  | n, d :: ds, h, l => by
    simp only [D.okL, Bool.and_eq_true] at h ⊢
    exact ⟨okD_up n d h.1 l, okL_up n ds h.2 l⟩
end
theorem in_s : OpS2 c (rInA c.K) (opIn false) := by
  intro G H x y da db P K s rx ry o f
  unfold opIn at o
  split at o
  · obtain ⟨_, hk, p⟩ := o
    obtain ⟨a, ov, rfl, g, rel⟩ := RD.get s ry hk (keyOk_rep hk rx)
    refine .inl ⟨a, ov, rfl, g, f.val s ?_ (.bl _)⟩
    rw [rel.isSome]
    simpa using p
  · obtain ⟨ch, rfl, p⟩ := o
    cases rx; cases ry
    exact .inr (.inl ⟨_, _, rfl, rfl, f.val s (by simpa using p) (.bl _)⟩)
  · obtain ⟨h1, h2, p⟩ := o
    refine .inr (.inr (.inr ⟨_, _, RD.dp s rx h1, RD.dp (n := 60) s ry h2, D.shaped (okD_up _ _ h1 (by omega)), D.shaped (d := .lst _) h2, f.val s ?_ (.bl _)⟩))
    rw [anyD (okD_up _ _ h1 (by omega)) (okL_up _ _ h2 (by omega))]
    simpa using p
  · obtain ⟨h1, h2, p⟩ := o
    cases (show Rep c.K c.w G y _ from ry) with
    | tup q r =>
    have rx' := RD.rep s rx (ok0_nl h1)
    refine .inr (.inr (.inl ⟨_, _, rfl, .inr (SqT.of (s _ _ q)), ok0_flat h1 rx', flats h2 r, ?_⟩))
    rw [inV_flat h1 rx' h2 (r.mono s)]
    exact f.val s (by simpa using p) (.bl _)
  · obtain ⟨h1, h2, p⟩ := o
    cases (show Rep c.K c.w G y _ from ry) with
    | ktup q r =>
    have rx' := RD.rep s rx (ok0_nl h1)
    refine .inr (.inr (.inl ⟨_, _, rfl, .inr (.inr q), ok0_flat h1 rx', flats h2 r, ?_⟩))
    rw [inV_flat h1 rx' h2 (r.mono s)]
    exact f.val s (by simpa using p) (.bl _)
  · exact o.elim
theorem notin_s : OpS2 c (rNotInA c.K) (opIn true) := by
  intro G H x y da db P K s rx ry o f
  unfold opIn at o
  split at o
  · obtain ⟨_, hk, p⟩ := o
    obtain ⟨a, ov, rfl, g, rel⟩ := RD.get s ry hk (keyOk_rep hk rx)
    refine .inl ⟨a, ov, rfl, g, f.val s ?_ (.bl _)⟩
    rw [rel.isSome]
    simpa using p
  · obtain ⟨ch, rfl, p⟩ := o
    cases rx; cases ry
    exact .inr (.inl ⟨_, _, rfl, rfl, f.val s (by simpa using p) (.bl _)⟩)
  · obtain ⟨h1, h2, p⟩ := o
    refine .inr (.inr (.inr ⟨_, _, RD.dp s rx h1, RD.dp (n := 60) s ry h2, D.shaped (okD_up _ _ h1 (by omega)), D.shaped (d := .lst _) h2, f.val s ?_ (.bl _)⟩))
    rw [anyD (okD_up _ _ h1 (by omega)) (okL_up _ _ h2 (by omega))]
    simpa using p
  · obtain ⟨h1, h2, p⟩ := o
    cases (show Rep c.K c.w G y _ from ry) with
    | tup q r =>
    have rx' := RD.rep s rx (ok0_nl h1)
    refine .inr (.inr (.inl ⟨_, _, rfl, .inr (SqT.of (s _ _ q)), ok0_flat h1 rx', flats h2 r, ?_⟩))
    rw [inV_flat h1 rx' h2 (r.mono s)]
    exact f.val s (by simpa using p) (.bl _)
  · obtain ⟨h1, h2, p⟩ := o
    cases (show Rep c.K c.w G y _ from ry) with
    | ktup q r =>
    have rx' := RD.rep s rx (ok0_nl h1)
    refine .inr (.inr (.inl ⟨_, _, rfl, .inr (.inr q), ok0_flat h1 rx', flats h2 r, ?_⟩))
    rw [inV_flat h1 rx' h2 (r.mono s)]
    exact f.val s (by simpa using p) (.bl _)
  · exact o.elim
theorem room65 {X : Cx} (g : Good c X) : X.A.units + 65 < cLine := by have := g.roomH.un; omega
theorem r_in {X : Cx} (g : Good c X) : OpR X (compareOp .In) (rInA c.K) := by
  rw [← g.K]
  exact (op_inDic (g.hu)).or (op_in_sign.or (op_in_seq.or (op_inD (room65 g))))
theorem r_notin {X : Cx} (g : Good c X) : OpR X (compareOp .NotIn) (rNotInA c.K) := by
  rw [← g.K]
  exact (op_notInDic (g.hu)).or (op_notIn_sign.or (op_notIn_seq.or (op_notInD (room65 g))))
theorem vt_in (ha : VE c a ta) (hb : VE c b tb) (hm : behindInMarks .In b = false := by rfl) : VT c (.Compare a [.In] [b] pos) (tV (eOp2 (opIn false) ta tb)) := vt_op2 (fun X g => r_in g) in_s hm ha hb
theorem vt_notin (ha : VE c a ta) (hb : VE c b tb) (hm : behindInMarks .NotIn b = false := by rfl) : VT c (.Compare a [.NotIn] [b] pos) (tV (eOp2 (opIn true) ta tb)) := vt_op2 (fun X g => r_notin g) notin_s hm ha hb

/-! ### is None -/
def opIsN (neg : Bool) : D → D → (RV → Prop) → Prop
  | d, .non, Q => Q (.val (.bl (neg ^^ decide (d = .non))))
  | _, _, _ => False
/-! ### and, or, not; if else -/
def tNotD (t : TTt) : TTt := fun env Q Xq => t env (fun b e => Q (!b) e) Xq
def tAndD (t u : TTt) : TTt := fun env Q Xq => t env (fun b e => if b = true then u e Q Xq else Q false e) Xq
def tOrD (t u : TTt) : TTt := fun env Q Xq => t env (fun b e => if b = true then Q true e else u e Q Xq) Xq
variable {t u : TTt}
theorem vt_not (h : VT c a t) : VT c (.UnaryOp .Not a pos) (tNotD t) := by
  constructor
  intro X g G B H σ env Q Xq E q tk
  refine TUt.of (pt_not (pt_tu (e := a))) ?_
  exact (h.run X g G B H σ env _ Xq E q tk).imp fun b H1 ⟨e1, G1, q1, r⟩ => ⟨e1, G1, q1, r⟩
theorem vw_vt {e : Expr} (h : VW c e t) : VT c e t := ⟨fun X g G B H σ env Q Xq E q tk => fun pins s I => h.run X g G B H σ env Q Xq E q tk _ pins s I⟩
theorem vw_or1 (h : VT c a t) : VW c (.BoolOp .Or [a] pos) t := ⟨fun X g G B H σ env Q Xq E q tk => TUw.of (pw_or1 (pt_tu (e := a))) (h.run X g G B H σ env Q Xq E q tk)⟩
theorem vw_or {r : List Expr} (h : VT c a t) (k : VW c (.BoolOp .Or (b :: r) pos) u) : VW c (.BoolOp .Or (a :: b :: r) pos) (tOrD t u) := by
  constructor
  intro X g G B H σ env Q Xq E q tk
  refine TUw.of (pw_or (pt_tu (e := a)) (pw_tu (e := .BoolOp .Or (b :: r) pos))) ?_
  refine (h.run X g G B H σ env _ Xq E q tk).imp fun b H1 ⟨e1, G1, q1, E1, x1, k1⟩ => ?_
  cases b with
  | true =>
    rw [if_pos rfl] at q1 ⊢
    exact ⟨e1, G1, q1, E1, x1, k1⟩
  | false =>
    rw [if_neg (by decide)] at q1 ⊢
    exact (k.run X g G1 B H1 σ e1 Q Xq E1 q1 (takes_up tk x1 k1)).imp fun b H2 z => z.up x1 k1
/-- as values -/
def eNot (t : ET) : ET := fun env Q Xq => t env (fun r e => ∃ b, r = .val (.bl b) ∧ Q (.val (.bl (!b))) e) Xq
def eAnd (t u : ET) : ET := fun env Q Xq => t env (fun r e => ∃ b, r = .val (.bl b) ∧ if b = true then u e Q Xq else Q (.val (.bl false)) e) Xq
def eOr (t u : ET) : ET := fun env Q Xq => t env (fun r e => ∃ b, r = .val (.bl b) ∧ if b = true then Q (.val (.bl true)) e else u e Q Xq) Xq
def eIf (t : TTt) (x y : ET) : ET := fun env Q Xq => t env (fun b e => if b = true then x e Q Xq else y e Q Xq) Xq
variable {x y : ET}
theorem ve_one {op : BoolOp} (h : VE c a x) : VE c (.BoolOp op [a] pos) x := ⟨fun X g G B H σ env Q Xq E q tk => TU.of (pe_one (pe_tu (e := a))) (h.run X g G B H σ env Q Xq E q tk)⟩
theorem ve_or {r : List Expr} (h : VE c a x) (k : VE c (.BoolOp .Or (b :: r) pos) y) : VE c (.BoolOp .Or (a :: b :: r) pos) (eOr x y) := by
  constructor
  intro X g G B H σ env Q Xq E q tk
  refine TU.of (pe_or (pe_tu (e := a)) (pe_tu (e := .BoolOp .Or (b :: r) pos))) ?_
  refine (h.run X g G B H σ env _ Xq E q tk).imp fun v H1 z => ?_
  obtain ⟨rv, e1, G1, ⟨b, rfl, q1⟩, E1, x1, k1, r1⟩ := z
  cases (show Rep c.K c.w G1 v (.bl b) from r1)
  refine ⟨b, rfl, ?_⟩
  cases b with
  | true =>
    rw [if_pos rfl] at q1 ⊢
    exact ⟨_, e1, G1, q1, E1, x1, k1, .bl _⟩
  | false =>
    rw [if_neg (by decide)] at q1 ⊢
    exact (k.run X g G1 B H1 σ e1 Q Xq E1 q1 (takes_up tk x1 k1)).imp fun b H2 z => z.up x1 k1
end
end VS

namespace VS
open PySem PySem.Spec L2

/-! ### shared values -/
def fzs (env : Env) : List RV → Option (List D × Env)
  | [] => some ([], env)
  | r :: rs => match fz env r with
    | some (d, e1) => match fzs e1 rs with
      | some (ds, e2) => some (d :: ds, e2)
      | none => none
    | none => none
section
variable {c : Cfg} {G B H : Hp} {σ : St}
theorem RepH.repR {env : Env} {v : V} {r : RV} {p : D × Env} (h : RepH c G σ v r) (e : fz env r = some p) : RepR c G B H σ env v r := by
  cases r with
  | val d => exact h
  | fr d => exact h.elim
  | slot i =>
    refine ⟨h, ?_⟩
    unfold fz at e
    unfold rd
    simp only at e ⊢
    split at e
    · rename_i d q; exact ⟨d, by rw [q]⟩
    · rename_i d q; exact ⟨d, by rw [q]⟩
    iterate 4
      · rename_i q; exact ⟨_, by rw [q]⟩
    · cases e
theorem RepHs.fzs : ∀ {G : Hp} {vs : List V} {rs : List RV} {env : Env} {ds : List D} {env' : Env}, RepEnv c G B H σ env → RepHs c G σ vs rs → VS.fzs env rs = some (ds, env') →
    ∃ G', Ext B G G' ∧ RepEnv c G' B H σ env' ∧ RepL c.K c.w G' vs ds ∧ Keeps env env'
  | G, _, _, _, _, _, E, .nil, e => by
    cases e
    exact ⟨G, Ext.refl _ _, E, .nil, Keeps.refl _⟩
  | G, _, _, _, _, _, E, .cons h r, e => by
    unfold VS.fzs at e
    split at e
    · rename_i d e1 q1
      split at e
      · rename_i ds e2 q2
        cases e
        obtain ⟨G1, x1, E1, r1, k1⟩ := RepR.fz (B := B) (H := H) E (h.repR q1) q1
        obtain ⟨G2, x2, E2, r2, k2⟩ := RepHs.fzs E1 (r.mono x1.1) q2
        exact ⟨G2, x1.trans x2, E2, .cons (r1.mono x2.1) r2, k1.trans k2⟩
      · cases e
    · cases e
end
def eTup (ta : AT) : ET := fun env Q Xq => ta env (fun rs e1 => ∃ ds e2, fzs e1 rs = some (ds, e2) ∧ ds.length ≤ sizeLine ∧ Q (.val (.tup ds)) e2) Xq
def eLst (ta : AT) : ET := fun env Q Xq => ta env (fun rs e1 => ∃ ds e2, fzs e1 rs = some (ds, e2) ∧ ds.length ≤ sizeLine ∧ Q (.fr (.lst ds)) e2) Xq
def eDic0 (t : Bool) : ET := fun env Q _ => Q (.fr (.dic t [])) env
section
variable {c : Cfg} {pos : Pos} {es : List Expr} {ta : AT}
theorem ve_tup {k : Nat} (h : VA c es ta) : VE c (.Tuple es k pos) (eTup ta) := by
  constructor
  intro X g G B H σ env Q Xq E q tk
  refine TU.of (pe_tup (pa_tu (es := es))) ?_
  refine (h.run X g G B H σ env _ Xq E q tk).imp fun vs H1 ⟨rs, e1, G1, ⟨ds, e2, q1, q2, q3⟩, E1, x1, k1, r1⟩ => ?_
  obtain ⟨G2, x2, E2, r2, k2⟩ := r1.fzs E1 q1
  refine ⟨by rw [r2.length]; exact q2, fun p hp => ?_⟩
  have f : Fin c G2 H1 (fun r => Q r e2) (VQ c G B σ env Q) := fun rv v G' H' p res rr => ⟨rv, e2, G', p, E2.go res, (x1.trans x2).trans (res.ext E2.bh), k1.trans k2, E2.goR res rr⟩
  exact f.tup E2.gh q3 r2 p hp
theorem ve_lst (h : VA c es ta) : VE c (.List es pos) (eLst ta) := by
  constructor
  intro X g G B H σ env Q Xq E q tk
  refine TU.of (pe_lst (pa_tu (es := es))) ?_
  refine (h.run X g G B H σ env _ Xq E q tk).imp fun vs H1 ⟨rs, e1, G1, ⟨ds, e2, q1, q2, q3⟩, E1, x1, k1, r1⟩ => ?_
  obtain ⟨G2, x2, E2, r2, k2⟩ := r1.fzs E1 q1
  refine ⟨by rw [r2.length]; exact q2, fun p hp => ?_⟩
  have f : Fin c G2 H1 (fun r => Q r e2) (VQ c G B σ env Q) := fun rv v G' H' p res rr => ⟨rv, e2, G', p, E2.go res, (x1.trans x2).trans (res.ext E2.bh), k1.trans k2, E2.goR res rr⟩
  exact f.lst E2.gh q3 r2 p hp
theorem ve_dic0T : VE c (.Dict [] [] pos) (eDic0 true) := by
  constructor
  intro X g G B H σ env Q Xq E q tk
  refine TU.of pe_dnewT fun p hp => ?_
  have f : Fin c G H (fun r => Q r env) (VQ c G B σ env Q) := fun rv v G' H' p res rr => ⟨rv, env, G', p, E.go res, res.ext E.bh, Keeps.refl _, E.goR res rr⟩
  exact f.dicT E.gh q .nil p hp
end

/-! ### slices -/
def cutD {α : Type} (xs : List α) (lo hi : Option Int) : List α := (xs.drop (HT.sIx xs.length 0 lo)).take (HT.sIx xs.length xs.length hi - HT.sIx xs.length 0 lo)
def opSl (lo hi : Option Int) : D → (RV → Prop) → Prop
  | .lst xs, Q => Q (.fr (.lst (cutD xs lo hi)))
  | .tup xs, Q => Q (.val (.tup (cutD xs lo hi)))
  | .str z, Q => z.length ≤ sizeLine ∧ Q (.val (.str (cutS z lo hi)))
  | _, _ => False
def rSlAll (K : PySem.W.Frag) : V → Option Int → Option Int → Hp → VK → Prop := fun x lo hi H Q => rSlL K x lo hi H Q ∨ rSlA K x lo hi H Q ∨ rSlS x lo hi H Q
theorem cutD_whole {α : Type} {xs : List α} {lo hi : Option Int} (h : HT.sIx xs.length 0 lo = 0 ∧ HT.sIx xs.length xs.length hi = xs.length) : cutD xs lo hi = xs := by
  unfold cutD
  rw [h.1, h.2]
  simp
section
variable {c : Cfg} {pos p2 : Pos} {a lo hi : Expr} {ta tl th : ET}
theorem sl_s {G H : Hp} {x : V} {d : D} {l h : Option Int} {P : RV → Prop} {K : VK} (s : Same G H) (rx : RD c.K c.w H G x d) (o : opSl l h d P) (f : Fin c G H P K) : rSlAll c.K x l h H K := by
  cases d <;> try exact False.elim o
  · cases rx
    exact .inr (.inr ⟨_, rfl, o.1, f.val s o.2 (.str _)⟩)
  · rename_i xs
    cases (show Rep c.K c.w G x _ from rx) with
    | @tup a vs _ q r =>
    refine .inr (.inl ⟨_, _, rfl, SqT.of (s _ _ q), fun e => ?_, fun e => ?_⟩)
    · rw [r.length] at e
      exact f.val s o (by rw [cutD_whole e]; exact rx)
    · refine f.tup (ds := cutD xs l h) s o ?_
      unfold cutV cutD
      rw [r.length]
      exact (r.drop _).take _
  · rename_i xs
    obtain ⟨a, vs, rfl, q, r⟩ := rx
    refine .inl ⟨_, _, rfl, q, ?_⟩
    refine f.lst (ds := cutD xs l h) s o ?_
    unfold cutV cutD
    rw [r.length]
    exact (r.drop _).take _
theorem sl_r {X : Cx} (g : Good c X) : SlR X (rSlAll c.K) := by
  rw [← g.K]
  exact sl_list.or (sl_tupA.or sl_str)
def eSl11 (ta tl th : ET) : ET := fun env Q Xq => ta env (fun r e1 => tl e1 (fun rl e2 => ∃ i, rl = .val (.int i) ∧ th e2 (fun rh e3 => ∃ d j, rh = .val (.int j) ∧ rd e3 r.hold = some d ∧ opSl (some i) (some j) d fun r => Q r e3) Xq) Xq) Xq
def eSl10 (ta tl : ET) : ET := fun env Q Xq => ta env (fun r e1 => tl e1 (fun rl e2 => ∃ d i, rl = .val (.int i) ∧ rd e2 r.hold = some d ∧ opSl (some i) none d fun r => Q r e2) Xq) Xq
def eSl01 (ta th : ET) : ET := fun env Q Xq => ta env (fun r e1 => th e1 (fun rl e2 => ∃ d i, rl = .val (.int i) ∧ rd e2 r.hold = some d ∧ opSl none (some i) d fun r => Q r e2) Xq) Xq
theorem ve_sl10 (ha : VE c a ta) (hl : VE c lo tl) : VE c (.Subscript a (.Slice (some lo) none none p2) pos) (eSl10 ta tl) := by
  constructor
  intro X g G B H σ env Q Xq E q tk
  refine TU.of (pe_slice (sl_r g) (pe_tu (e := a)) (po_some (pe_tu (e := lo))) po_none) ?_
  refine (ha.run X g G B H σ env _ Xq E q tk).imp fun x H1 ⟨ra, e1, G1, q1, E1, x1, k1, r1⟩ => ?_
  obtain ⟨G2, x2, E2, h2⟩ := r1.hold E1
  refine (hl.run X g G2 B H1 σ e1 _ Xq E2 q1 (takes_up tk (x1.trans x2) k1)).imp fun y H2 z => ?_
  obtain ⟨rb, e2, G3, ⟨d, i, rfl, d1, o⟩, E3, x3, k3, r3⟩ := z
  cases (show Rep c.K c.w G3 y (.int i) from r3)
  refine ⟨i, rfl, sl_s E3.gh (E3.rdH (h2.mono x3.1) d1) o fun rv v G' H' p res rr => ?_⟩
  exact ⟨rv, e2, G', p, E3.go res, ((x1.trans x2).trans x3).trans (res.ext E3.bh), k1.trans k3, E3.goR res rr⟩
theorem ve_sl01 (ha : VE c a ta) (hl : VE c lo tl) : VE c (.Subscript a (.Slice none (some lo) none p2) pos) (eSl01 ta tl) := by
  constructor
  intro X g G B H σ env Q Xq E q tk
  refine TU.of (pe_slice (sl_r g) (pe_tu (e := a)) po_none (po_some (pe_tu (e := lo)))) ?_
  refine (ha.run X g G B H σ env _ Xq E q tk).imp fun x H1 ⟨ra, e1, G1, q1, E1, x1, k1, r1⟩ => ?_
  obtain ⟨G2, x2, E2, h2⟩ := r1.hold E1
  refine (hl.run X g G2 B H1 σ e1 _ Xq E2 q1 (takes_up tk (x1.trans x2) k1)).imp fun y H2 z => ?_
  obtain ⟨rb, e2, G3, ⟨d, i, rfl, d1, o⟩, E3, x3, k3, r3⟩ := z
  cases (show Rep c.K c.w G3 y (.int i) from r3)
  refine ⟨i, rfl, sl_s E3.gh (E3.rdH (h2.mono x3.1) d1) o fun rv v G' H' p res rr => ?_⟩
  exact ⟨rv, e2, G', p, E3.go res, ((x1.trans x2).trans x3).trans (res.ext E3.bh), k1.trans k3, E3.goR res rr⟩
end

/-! ### built-in functions, by their arguments -/
structure BltC (c : Cfg) (x : Str) (u : Value) : Prop where
  gl : GlC c x
  mg : c.mg x = none
  bt : bootBuiltins x = some u
  nn : x ≠ "__name__"
  nd : (x == ("__debug__" : Str)) = false
theorem noStars {es : List Expr} {env : PySem.Env} {pos : Pos} (h : es.all noStar = true) : (backTo pos (starEach es env)).any (·.1) = false := by
  induction es with
  | nil => rfl
  | cons e es ih =>
    rw [List.all_cons, Bool.and_eq_true] at h
    rw [star_cons h.1]
    have ih := ih h.2
    unfold backTo at ih ⊢
    rw [List.map_cons, List.any_cons, ih]
    rfl
section
variable {c : Cfg} {pos p : Pos} {x : Str} {e : Expr} {es : List Expr} {ta : AT} {r : List V → Hp → VK → Prop} {op : List D → (RV → Prop) → Prop}
theorem ve_blt {id : String} (b : BltC c x (.builtin id)) (hr : ∀ X, Good c X → CallR X (.builtin id) r) (hs : OpSn c r op) (ha : VA c (e :: es) ta) (hn : (e :: es).all noStar = true := by rfl) : VE c (.Call (.Name x p) (e :: es) [] pos) (eOpn op ta) :=
  ve_opn (fun X g => by
    have hn2 : noStar e = true ∧ es.all noStar = true := by
      rw [List.all_cons, Bool.and_eq_true] at hn
      exact hn
    exact pe_callB (hr X g) (b.gl.gl g) (by rw [g.mg]; exact b.mg) b.bt (pa_tu (es := e :: es)) b.nn b.nd (star_cons hn2.1) (noStars hn2.2)) hs ha
theorem ve_bty {T : String} (b : BltC c x (.type T)) (hr : ∀ X, Good c X → CallR X (.type T) r) (hs : OpSn c r op) (ha : VA c (e :: es) ta) (hn : (e :: es).all noStar = true := by rfl) : VE c (.Call (.Name x p) (e :: es) [] pos) (eOpn op ta) :=
  ve_opn (fun X g => by
    have hn2 : noStar e = true ∧ es.all noStar = true := by
      rw [List.all_cons, Bool.and_eq_true] at hn
      exact hn
    exact pe_callTy (hr X g) (b.gl.gl g) (by rw [g.mg]; exact b.mg) b.bt (pa_tu (es := e :: es)) b.nn b.nd (star_cons hn2.1) (noStars hn2.2)) hs ha
end
end VS

namespace VS
open PySem PySem.Spec L2

/-! ### statements -/
structure EndsD where
  nx : Env → Prop
  rt : RV → Env → Prop
  bk : Env → Prop
  ct : Env → Prop
  xq : XQ
abbrev STt := EndsD → Env → Prop
def TUs (X : Cx) (st : Stmt) : TS := fun D σ H => ∀ (pins : List (Addr × Obj)) (s : Shared), Inv X pins σ H s → wpAny (model X.prog X.w) X.A (exec st X.env) (SP X pins D) X.xe s
def TUss (X : Cx) (st : List Stmt) : TS := fun D σ H => ∀ (pins : List (Addr × Obj)) (s : Shared), Inv X pins σ H s → wpAny (model X.prog X.w) X.A (execs st X.env) (SP X pins D) X.xe s
theorem ps_tu {X : Cx} {st : Stmt} : PS X st (TUs X st) := ⟨fun pins s σ H Q I h => h pins s I⟩
theorem pss_tu {X : Cx} {st : List Stmt} : PSs X st (TUss X st) := ⟨fun pins s σ H Q I h => h pins s I⟩
/-- what follows from more -/
structure EndsLe (D D' : Ends) : Prop where
  nx : ∀ σ H, D.nx σ H → D'.nx σ H
  rt : ∀ v H, D.rt v H → D'.rt v H
  bk : ∀ σ H, D.bk σ H → D'.bk σ H
  ct : ∀ σ H, D.ct σ H → D'.ct σ H
theorem SP_imp {X : Cx} {pins : List (Addr × Obj)} {D D' : Ends} {f : Flow} {s : Shared} (l : EndsLe D D') (h : SP X pins D f s) : SP X pins D' f s := by
  cases f with
  | next => obtain ⟨σ', H', I, q⟩ := h; exact ⟨σ', H', I, l.nx _ _ q⟩
  | brk => obtain ⟨σ', H', I, q⟩ := h; exact ⟨σ', H', I, l.bk _ _ q⟩
  | cont => obtain ⟨σ', H', I, q⟩ := h; exact ⟨σ', H', I, l.ct _ _ q⟩
  | ret u => obtain ⟨v, σ', H', I, r, q⟩ := h; exact ⟨v, σ', H', I, r, l.rt _ _ q⟩
theorem TUs.imp {X : Cx} {st : Stmt} {D D' : Ends} {σ : St} {H : Hp} (l : EndsLe D D') (h : TUs X st D σ H) : TUs X st D' σ H := fun pins s I => thn (h pins s I) fun _ _ q => SP_imp l q
theorem TUss.imp {X : Cx} {st : List Stmt} {D D' : Ends} {σ : St} {H : Hp} (l : EndsLe D D') (h : TUss X st D σ H) : TUss X st D' σ H := fun pins s I => thn (h pins s I) fun _ _ q => SP_imp l q
theorem TUs.of {X : Cx} {st : Stmt} {t : TS} {D : Ends} {σ : St} {H : Hp} (h : PS X st t) (q : t D σ H) : TUs X st D σ H := fun pins s I => h.run pins s σ H D I q
theorem TUss.of {X : Cx} {st : List Stmt} {t : TS} {D : Ends} {σ : St} {H : Hp} (h : PSs X st t) (q : t D σ H) : TUss X st D σ H := fun pins s I => h.run pins s σ H D I q
def EN (c : Cfg) (G B : Hp) (σ : St) (env : Env) (P : Env → Prop) : St → Hp → Prop := fun σ' H' => ∃ env' G', P env' ∧ RepEnv c G' B H' σ' env' ∧ Ext B G G' ∧ BorS env env' σ σ'
def ER (c : Cfg) (G B : Hp) (σ : St) (env : Env) (P : RV → Env → Prop) : VK := fun v H' => ∃ rv env' G' σ', P rv env' ∧ RepEnv c G' B H' σ' env' ∧ Ext B G G' ∧ BorS env env' σ σ' ∧ RepR c G' B H' σ' env' v rv
def EndsOf (c : Cfg) (G B : Hp) (σ : St) (env : Env) (D : EndsD) : Ends := { nx := EN c G B σ env D.nx, rt := ER c G B σ env D.rt, bk := EN c G B σ env D.bk, ct := EN c G B σ env D.ct }
section
variable {c : Cfg} {G B G1 : Hp} {σ σ1 : St} {env e1 : Env}
theorem EN.up {P : Env → Prop} {σ' : St} {H' : Hp} (h : EN c G1 B σ1 e1 P σ' H') (x : Ext B G G1) (b : BorS env e1 σ σ1) : EN c G B σ env P σ' H' := by
  obtain ⟨env', G', q, E, x', b'⟩ := h
  exact ⟨env', G', q, E, x.trans x', b.trans b'⟩
theorem ER.up {P : RV → Env → Prop} {v : V} {H' : Hp} (h : ER c G1 B σ1 e1 P v H') (x : Ext B G G1) (b : BorS env e1 σ σ1) : ER c G B σ env P v H' := by
  obtain ⟨rv, env', G', σ', q, E, x', b', r⟩ := h
  exact ⟨rv, env', G', σ', q, E, x.trans x', b.trans b', r⟩
theorem EndsOf.up {D : EndsD} (x : Ext B G G1) (b : BorS env e1 σ σ1) : EndsLe (EndsOf c G1 B σ1 e1 D) (EndsOf c G B σ env D) :=
  ⟨fun _ _ h => EN.up h x b, fun _ _ h => ER.up h x b, fun _ _ h => EN.up h x b, fun _ _ h => EN.up h x b⟩
theorem takes_ups {X : Cx} {Xq : XQ} (t : TakesC c X (WXo c G B σ env Xq)) (x : Ext B G G1) (b : BorS env e1 σ σ1) : TakesC c X (WXo c G1 B σ1 e1 Xq) :=
  t.imp fun cls d σ' H' ⟨xd, env', G', q, E, x', b', r⟩ => ⟨xd, env', G', q, E, x.trans x', BorS.trans b b', r⟩
end
structure VS1 (c : Cfg) (st : Stmt) (t : STt) : Prop where
  run : ∀ (X : Cx), Good c X → ∀ (G B H : Hp) (σ : St) (env : Env) (D : EndsD), RepEnv c G B H σ env → t D env → TakesC c X (WXo c G B σ env D.xq) → TUs X st (EndsOf c G B σ env D) σ H
structure VSs (c : Cfg) (st : List Stmt) (t : STt) : Prop where
  run : ∀ (X : Cx), Good c X → ∀ (G B H : Hp) (σ : St) (env : Env) (D : EndsD), RepEnv c G B H σ env → t D env → TakesC c X (WXo c G B σ env D.xq) → TUss X st (EndsOf c G B σ env D) σ H

def sNext : STt := fun D env => D.nx env
def sSeq (t u : STt) : STt := fun D env => t { D with nx := fun e => u D e } env
def sIf (t : TTt) (a b : STt) : STt := fun D env => t env (fun k e => if k = true then a D e else b D e) D.xq
def sRet (t : ET) : STt := fun D env => t env D.rt D.xq
def sRetN : STt := fun D env => D.rt (.val .non) env
def sDrop (t : ET) : STt := fun D env => t env (fun _ e => D.nx e) D.xq
section
variable {c : Cfg} {pos : Pos}
theorem vss_nil : VSs c [] sNext := ⟨fun X g G B H σ env D E q tk => TUss.of pss_nil ⟨env, G, q, E, Ext.refl _ _, BorS.refl _ _⟩⟩
theorem vss_cons {s : Stmt} {r : List Stmt} {t u : STt} (h1 : VS1 c s t) (h2 : VSs c r u) : VSs c (s :: r) (sSeq t u) := by
  constructor
  intro X g G B H σ env D E q tk
  refine TUss.of (pss_cons (ps_tu (st := s)) (pss_tu (st := r))) ?_
  refine TUs.imp ?_ (h1.run X g G B H σ env _ E q tk)
  refine ⟨fun σ' H' ⟨env', G', q', E', x', b'⟩ => ?_, fun _ _ h => h, fun _ _ h => h, fun _ _ h => h⟩
  exact (h2.run X g G' B H' σ' env' D E' q' (takes_ups tk x' b')).imp (EndsOf.up x' b')
theorem vss_one {s : Stmt} {t : STt} (h1 : VS1 c s t) : VSs c [s] t := ⟨fun X g G B H σ env D E q tk => TUss.of (pss_one (ps_tu (st := s))) (h1.run X g G B H σ env D E q tk)⟩
theorem vs_if {e : Expr} {a b : List Stmt} {t : TTt} {u v : STt} (ht : VT c e t) (ha : VSs c a u) (hb : VSs c b v) : VS1 c (.If e a b pos) (sIf t u v) := by
  constructor
  intro X g G B H σ env D E q tk
  refine TUs.of (ps_if (pt_tu (e := e)) (pss_tu (st := a)) (pss_tu (st := b))) ?_
  refine (ht.run X g G B H σ env _ D.xq E q tk).imp fun k H1 ⟨e1, G1, q1, E1, x1, k1⟩ => ?_
  have b1 := k1.bors σ
  cases k with
  | true =>
    rw [if_pos rfl] at q1 ⊢
    exact (ha.run X g G1 B H1 σ e1 D E1 q1 (takes_ups tk x1 b1)).imp (EndsOf.up x1 b1)
  | false =>
    rw [if_neg (by decide)] at q1 ⊢
    exact (hb.run X g G1 B H1 σ e1 D E1 q1 (takes_ups tk x1 b1)).imp (EndsOf.up x1 b1)
theorem vs_ret {e : Expr} {t : ET} (h : VE c e t) : VS1 c (.Return (some e) pos) (sRet t) := by
  constructor
  intro X g G B H σ env D E q tk
  refine TUs.of (ps_ret (pe_tu (e := e))) ?_
  refine (h.run X g G B H σ env _ D.xq E q tk).imp fun v H1 ⟨rv, e1, G1, q1, E1, x1, k1, r1⟩ => ?_
  exact ⟨rv, e1, G1, σ, q1, E1, x1, k1.bors σ, r1⟩
theorem vs_expr {e : Expr} {t : ET} (h : VE c e t) (hs : ∀ env : PySem.Env, swapsWith e none pos.line env = pure false := by intros; rfl) : VS1 c (.Expr e pos) (sDrop t) := by
  constructor
  intro X g G B H σ env D E q tk
  refine TUs.of (ps_expr (pe_tu (e := e)) (hs X.env)) ?_
  refine (h.run X g G B H σ env _ D.xq E q tk).imp fun v H1 ⟨rv, e1, G1, q1, E1, x1, k1, r1⟩ => ?_
  exact ⟨e1, G1, q1, E1, x1, k1.bors σ⟩
end

/-! ### slots stored -/
theorem RepEnv.setVal {c : Cfg} {G B H : Hp} {σ : St} {env : Env} (E : RepEnv c G B H σ env) {i : Nat} {v : V} {d : D} (hi : i < env.length) (r : Rep c.K c.w G v d) : RepEnv c G B H (σ.set i (some v)) (env.set i (.val d)) := by
  have hσ : i < σ.length := by rw [E.len]; exact hi
  have old : ∀ {j : Nat} {s : Slot}, (env.set i (.val d))[j]? = some s → (j = i ∧ s = .val d) ∨ (j ≠ i ∧ env[j]? = some s ∧ (σ.set i (some v))[j]? = σ[j]?) := fun {j s} ej => by
    by_cases z : j = i
    · subst z
      rw [List.getElem?_set_self hi] at ej
      exact .inl ⟨rfl, (Option.some.inj ej).symm⟩
    · rw [List.getElem?_set_ne (Ne.symm z)] at ej
      exact .inr ⟨z, ej, List.getElem?_set_ne (Ne.symm z)⟩
  refine ⟨E.gh, E.bh, by rw [List.length_set, List.length_set]; exact E.len, fun j d' e => ?_, fun j d' e => ?_, fun j d' e => ?_, fun j k d1 d2 b e1 e2 h1 h2 => ?_⟩
  · rcases old e with ⟨rfl, es⟩ | ⟨ne, e', es⟩
    · cases es
      exact ⟨v, List.getElem?_set_self hσ, r⟩
    · rw [es]
      exact E.val j d' e'
  · rcases old e with ⟨rfl, es⟩ | ⟨ne, e', es⟩
    · cases es
    · rw [es]
      exact E.own j d' e'
  · rcases old e with ⟨rfl, es⟩ | ⟨ne, e', es⟩
    · cases es
    · rw [es]
      exact E.bor j d' e'
  · rcases old e1 with ⟨rfl, es⟩ | ⟨ne1, e1', es1⟩
    · cases es
    · rcases old e2 with ⟨rfl, es⟩ | ⟨ne2, e2', es2⟩
      · cases es
      · rw [es1] at h1
        rw [es2] at h2
        exact E.dis j k d1 d2 b e1' e2' h1 h2
theorem RepEnv.setFr {c : Cfg} {G B H : Hp} {σ : St} {env : Env} (E : RepEnv c G B H σ env) {i : Nat} {v : V} {d : D} (hi : i < env.length) (r : RepR c G B H σ env v (.fr d)) : RepEnv c G B H (σ.set i (some v)) (env.set i (.own d)) := by
  obtain ⟨a, o, rfl, q1, q2, q3, q4, q5⟩ := r
  have hσ : i < σ.length := by rw [E.len]; exact hi
  have old : ∀ {j : Nat} {s : Slot}, (env.set i (.own d))[j]? = some s → (j = i ∧ s = .own d) ∨ (j ≠ i ∧ env[j]? = some s ∧ (σ.set i (some (V.ref a)))[j]? = σ[j]?) := fun {j s} ej => by
    by_cases z : j = i
    · subst z
      rw [List.getElem?_set_self hi] at ej
      exact .inl ⟨rfl, (Option.some.inj ej).symm⟩
    · rw [List.getElem?_set_ne (Ne.symm z)] at ej
      exact .inr ⟨z, ej, List.getElem?_set_ne (Ne.symm z)⟩
  refine ⟨E.gh, E.bh, by rw [List.length_set, List.length_set]; exact E.len, fun j d' e => ?_, fun j d' e => ?_, fun j d' e => ?_, fun j k d1 d2 b e1 e2 h1 h2 => ?_⟩
  · rcases old e with ⟨rfl, es⟩ | ⟨ne, e', es⟩
    · cases es
    · rw [es]
      exact E.val j d' e'
  · rcases old e with ⟨rfl, es⟩ | ⟨ne, e', es⟩
    · cases es
      exact ⟨a, o, List.getElem?_set_self hσ, q1, q2, q3, q4⟩
    · rw [es]
      exact E.own j d' e'
  · rcases old e with ⟨rfl, es⟩ | ⟨ne, e', es⟩
    · cases es
    · rw [es]
      exact E.bor j d' e'
  · rcases old e1 with ⟨rfl, es⟩ | ⟨ne1, e1', es1⟩
    · rcases old e2 with ⟨rfl, es'⟩ | ⟨ne2, e2', es2⟩
      · rfl
      · rw [List.getElem?_set_self hσ] at h1
        cases h1
        rw [es2] at h2
        exact absurd h2 (q5 k d2 e2')
    · rcases old e2 with ⟨rfl, es⟩ | ⟨ne2, e2', es2⟩
      · rw [List.getElem?_set_self hσ] at h2
        cases h2
        rw [es1] at h1
        exact absurd h1 (q5 j d1 e1')
      · rw [es1] at h1
        rw [es2] at h2
        exact E.dis j k d1 d2 b e1' e2' h1 h2
theorem bors_set {env : Env} {σ : St} {i : Nat} {s : Slot} {o : Option V} (hi : i < env.length) (h : ∀ d, s ≠ .bor d) : BorS env (env.set i s) σ (σ.set i o) := fun j d e => by
  by_cases z : j = i
  · subst z
    rw [List.getElem?_set_self hi] at e
    cases e
    exact absurd rfl (h d)
  · rw [List.getElem?_set_ne (Ne.symm z)] at e
    exact ⟨e, List.getElem?_set_ne (Ne.symm z)⟩
/-- x = a value -/
def asgN (i : Nat) (rv : RV) (env : Env) : Option Env := match rv with
  | .fr d => some (env.set i (.own d))
  | r => match fz env r with
    | some (d, e) => some (e.set i (.val d))
    | none => none
def StoC (c : Cfg) (i : Nat) (x : Str) : Prop := c.N[i]? = some x ∧ Loc c.scope x ∧ (c.fn x = true ∨ c.scope.names.lookup x = some .local)
def sSet (i : Nat) (t : ET) : STt := fun D env => t env (fun rv e1 => ∃ e2, asgN i rv e1 = some e2 ∧ D.nx e2) D.xq
section
variable {c : Cfg} {pos pos' : Pos}
theorem RepEnv.asgN {G B H : Hp} {σ : St} {env e2 : Env} {v : V} {rv : RV} {i : Nat} (E : RepEnv c G B H σ env) (hi : i < env.length) (r : RepR c G B H σ env v rv) (e : VS.asgN i rv env = some e2) :
    ∃ G', Ext B G G' ∧ RepEnv c G' B H (σ.set i (some v)) e2 ∧ BorS env e2 σ (σ.set i (some v)) := by
  have go : (match fz env rv with
    | some (d, e) => some (e.set i (.val d))
    | none => none) = some e2 → ∃ G', Ext B G G' ∧ RepEnv c G' B H (σ.set i (some v)) e2 ∧ BorS env e2 σ (σ.set i (some v)) := fun e => by
    split at e
    · rename_i d e1 q
      cases e
      obtain ⟨G', x, E', r', k⟩ := RepR.fz E r q
      have hi' : i < e1.length := by rw [k.1]; exact hi
      exact ⟨G', x, E'.setVal hi' r', BorS.trans (k.bors σ) (bors_set hi' fun d h => by cases h)⟩
    · cases e
  cases rv with
  | fr d =>
    unfold VS.asgN at e
    cases e
    exact ⟨G, Ext.refl _ _, E.setFr hi r, bors_set hi fun d h => by cases h⟩
  | val d => exact go e
  | slot j => exact go e
theorem vs_set {i : Nat} {x : Str} {e : Expr} {t : ET} (hx : StoC c i x) (h : VE c e t) (hs : ∀ env : PySem.Env, swapsWith e (some (.Name x pos')) pos.line env = pure false := by intros; rfl) : VS1 c (.Assign [.Name x pos'] e pos) (sSet i t) := by
  constructor
  intro X g G B H σ env D E q tk
  refine TUs.of (ps_set g.nd (i := i) (by rw [g.N]; exact hx.1) (by rw [g.scope]; exact hx.2.1) (pe_tu (e := e)) (hs X.env) (by rw [g.fn, g.scope]; exact hx.2.2)) ?_
  refine fun pins s I => ?_
  have hl : i < env.length := by
    rw [← E.len, I.len, g.N]
    exact (List.getElem?_eq_some_iff.mp hx.1).1
  have z := (h.run X g G B H σ env _ D.xq E q tk) pins s I
  refine thn z fun u s' ⟨v, H1, I1, r, rv, e1, G1, ⟨e2, qa, qn⟩, E1, x1, k1, r1⟩ => ⟨v, H1, I1, r, ?_⟩
  obtain ⟨G', x2, E2, b2⟩ := E1.asgN (by rw [k1.1]; exact hl) r1 qa
  exact ⟨e2, G', qn, E2, x1.trans x2, BorS.trans (k1.bors σ) b2⟩

/-! ### a slot's own list or dict is changed -/
theorem RepEnv.setOwn {G B H : Hp} {σ : St} {env : Env} (E : RepEnv c G B H σ env) {i : Nat} {a : Addr} {d d' : D} {o' : HO} (ei : env[i]? = some (.own d)) (es : σ[i]? = some (some (.ref a))) (r : OwnO c.K c.w G d' o') : RepEnv c G B (upd H a o') σ (env.set i (.own d')) := by
  obtain ⟨b, o, k1, q1, q2, q3, q4⟩ := E.own i d ei
  rw [es] at k1
  cases k1
  have hi : i < env.length := (List.getElem?_eq_some_iff.mp ei).1
  have old : ∀ {j : Nat} {s : Slot}, (env.set i (.own d'))[j]? = some s → (j = i ∧ s = .own d') ∨ (j ≠ i ∧ env[j]? = some s) := fun {j s} ej => by
    by_cases z : j = i
    · subst z
      rw [List.getElem?_set_self hi] at ej
      exact .inl ⟨rfl, (Option.some.inj ej).symm⟩
    · rw [List.getElem?_set_ne (Ne.symm z)] at ej
      exact .inr ⟨z, ej⟩
  have keep : ∀ {F : Hp}, Same F H → F a = none → Same F (upd H a o') := fun {F} s n b u e => by
    have ne : b ≠ a := ne_of_none e n
    rw [upd_ne ne]
    exact s b u e
  refine ⟨keep E.gh q1, keep E.bh q2, by rw [List.length_set]; exact E.len, fun j dj e => ?_, fun j dj e => ?_, fun j dj e => ?_, fun j k d1 d2 b e1 e2 h1 h2 => ?_⟩
  · rcases old e with ⟨rfl, z⟩ | ⟨ne, e'⟩
    · cases z
    · exact E.val j dj e'
  · rcases old e with ⟨rfl, z⟩ | ⟨ne, e'⟩
    · cases z
      exact ⟨a, o', es, q1, q2, upd_same, r⟩
    · obtain ⟨b, ob, m1, m2, m3, m4, m5⟩ := E.own j dj e'
      have nb : b ≠ a := fun z => ne (E.dis j i dj d a e' ei (by rw [← z]; exact m1) es)
      exact ⟨b, ob, m1, m2, m3, by rw [upd_ne nb]; exact m4, m5⟩
  · rcases old e with ⟨rfl, z⟩ | ⟨ne, e'⟩
    · cases z
    · exact E.bor j dj e'
  · rcases old e1 with ⟨rfl, z⟩ | ⟨ne1, e1'⟩
    · rcases old e2 with ⟨rfl, z'⟩ | ⟨ne2, e2'⟩
      · rfl
      · exact E.dis _ k d d2 b ei e2' h1 h2
    · rcases old e2 with ⟨rfl, z'⟩ | ⟨ne2, e2'⟩
      · exact E.dis j _ d1 d b e1' ei h1 h2
      · exact E.dis j k d1 d2 b e1' e2' h1 h2
theorem keeps_own {env : Env} {i : Nat} {d d' : D} (ei : env[i]? = some (.own d)) : Keeps env (env.set i (.own d')) := ⟨List.length_set, fun j dj e => by
  have hi : i < env.length := (List.getElem?_eq_some_iff.mp ei).1
  by_cases z : j = i
  · subst z
    rw [List.getElem?_set_self hi] at e
    cases e
  · rw [List.getElem?_set_ne (Ne.symm z)] at e
    exact e⟩
/-- x.append(e) -/
def eApp (i : Nat) (t : ET) : ET := fun env Q Xq => ∃ ds0, env[i]? = some (.own (.lst ds0)) ∧ t env (fun rv e1 => ∃ d e2 ds, fz e1 rv = some (d, e2) ∧ e2[i]? = some (.own (.lst ds)) ∧ ds.length < sizeLine ∧ ∃ e3, e2.set i (.own (.lst (ds ++ [d]))) = e3 ∧ Q (.val .non) e3) Xq
def NamC (c : Cfg) (i : Nat) (x : Str) : Prop := VisC c i x
theorem ve_app {i : Nat} {x : Str} {p apos : Pos} {e : Expr} {t : ET} (hx : VisC c i x) (h : VE c e t) (hn : noStar e = true := by rfl) (hline : (apos.endLine == pos.line) = true := by rfl) :
    VE c (.Call (.Attribute (.Name x p) "append" apos) [e] [] pos) (eApp i t) := by
  constructor
  intro X g G B H σ env Q Xq E q tk
  obtain ⟨h1, h2, h3, h4⟩ := hx
  have hs := star_cons (es := []) (env := X.env) hn
  refine TU.of (pe_bm PySem.F.plainAttrs_list PySem.F.slot_list_append PySem.F.type_list_append mt_append (pe_var (i := i) (x := x) (by rw [g.N]; exact h1) (by rw [g.scope]; exact h2) h3 h4) (pa_cons (pe_tu (e := e)) pa_nil hs) (by rfl) (by rw [hs]; rfl) hline hs (by rfl)) ?_
  obtain ⟨ds0, e0, q⟩ := q
  obtain ⟨a, o, k1, q1, q2, q3, vs, rfl, r⟩ := E.own i _ e0
  refine ⟨_, k1, .inl ⟨rfl, _, .inl (.inl q3)⟩, ?_⟩
  refine (h.run X g G B H σ env _ Xq E q tk).imp fun v H1 ⟨rv, e1, G1, ⟨d, e2, ds, qf, qe, ql, e3, qs, qn⟩, E1, x1, k1', r1⟩ => ?_
  subst qs
  obtain ⟨G2, x2, E2, r2, k2⟩ := r1.fz E1 qf
  obtain ⟨b, ob, m1, m2, m3, m4, ws, rfl, rr⟩ := E2.own i _ qe
  rw [k1] at m1
  cases m1
  refine ⟨a, ws, v, rfl, rfl, m4, by rw [rr.length]; exact ql, ?_⟩
  exact ⟨_, _, G2, qn, E2.setOwn qe k1 ⟨_, rfl, rr.append (.cons r2 .nil)⟩, x1.trans x2, (k1'.trans k2).trans (keeps_own qe), Rep.non⟩
/-- x.pop() -/
def ePop (i : Nat) : ET := fun env Q _ => ∃ ds d, env[i]? = some (.own (.lst ds)) ∧ ds[ds.length - 1]? = some d ∧ ∃ e', env.set i (.own (.lst ds.dropLast)) = e' ∧ Q (.val d) e'
theorem RepL.dropLast {K : PySem.W.Frag} {w : World} {G : Hp} {vs : List V} {ds : List D} (h : RepL K w G vs ds) : RepL K w G vs.dropLast ds.dropLast := by
  rw [List.dropLast_eq_take, List.dropLast_eq_take, h.length]
  exact h.take _
/-- x[k] = e -/
def sPut (i : Nat) (tk tv : ET) : STt := fun D env => tv env (fun rv e1 => ∃ d0, e1[i]? = some (.own d0) ∧ tk e1 (fun rk e2 => ∃ dv e3 dk, fz e2 rv.hold = some (dv, e3) ∧ rd e3 rk = some dk ∧ match e3[i]? with
  | some (.own (.dic t kvs)) => keyOk t dk = true ∧ kvs.length < sizeLine ∧ ∃ e4, e3.set i (.own (.dic t (dput kvs dk dv))) = e4 ∧ D.nx e4
  | some (.own (.lst ds)) => ∃ k j, dk = .int k ∧ ixN ds.length k = some j ∧ ∃ e4, e3.set i (.own (.lst (ds.set j dv))) = e4 ∧ D.nx e4
  | _ => False) D.xq) D.xq
def rSetD : TSet := fun o i v H Q => ∃ a H', o = .ref a ∧ DPut H a i v H' ∧ Q H'
theorem set_dict {X : Cx} (hu : X.A.units + 1 < cLine) : PSet X rSetD := by
  intro pins s σ H o i v ov iv u Q I ro ri rv h
  obtain ⟨a, H', rfl, g, q⟩ := h
  obtain rfl : ov = Value.ref a := ro
  exact d_setItem hu I g ri rv fun s' I' => ⟨H', I', q⟩
theorem pset_or {X : Cx} {t u : TSet} (h : PSet X t) (k : PSet X u) : PSet X (fun o i v H Q => t o i v H Q ∨ u o i v H Q) := by
  intro pins s σ H o i v ov iv w Q I ro ri rv q
  rcases q with q | q
  · exact h pins s σ H o i v ov iv w Q I ro ri rv q
  · exact k pins s σ H o i v ov iv w Q I ro ri rv q
theorem vs_put {i : Nat} {x : Str} {p tpos : Pos} {k e : Expr} {tk tv : ET} (hx : VisC c i x) (hv : VE c e tv) (hk : VE c k tk) (hs : ∀ env : PySem.Env, swapsWithSole [.Subscript (.Name x p) k tpos] e pos.line env = pure false := by intros; rfl)
    (ha : ∀ (env : PySem.Env) (v : Value), assign (.Subscript (.Name x p) k tpos) env v = (do
      let ov ← holding [v] (eval (.Name x p) env)
      let iv ← holding [v, ov] (eval k env)
      standAt tpos
      holding [v, ov, iv] (setItem ov iv v)
      release [v, ov, iv] []) := by intros; rfl) : VS1 c (.Assign [.Subscript (.Name x p) k tpos] e pos) (sPut i tk tv) := by
  constructor
  intro X g G B H σ env D E q tk'
  obtain ⟨h1, h2, h3, h4⟩ := hx
  refine TUs.of (ps_asg (pe_tu (e := e)) (pg_sub (pe_var (i := i) (x := x) (by rw [g.N]; exact h1) (by rw [g.scope]; exact h2) h3 h4) (pe_tu (e := k)) (pset_or set_list (set_dict (g.hu))) (ha X.env)) (hs X.env) (by rfl) (by rfl)) ?_
  refine (hv.run X g G B H σ env _ D.xq E q tk').imp fun v H1 ⟨rv, e1, G1, ⟨d0, e0, q1⟩, E1, x1, k1, r1⟩ => ?_
  obtain ⟨G1', x1', E1', p1⟩ := r1.hold E1
  obtain ⟨a, o, m1, m2, m3, m4, m5⟩ := E1'.own i _ e0
  refine ⟨_, m1, ?_⟩
  refine (hk.run X g G1' B H1 σ e1 _ D.xq E1' q1 (takes_up tk' (x1.trans x1') k1)).imp fun kv H2 ⟨rk, e2, G2, ⟨dv, e3, dk, qf, qr, qm⟩, E2, x2, k2, r2⟩ => ?_
  obtain ⟨G2', x2', E2', p2⟩ := r2.hold E2
  obtain ⟨G3, x3, E3, p3, k3⟩ := RepR.fz E2' ((p1.mono (x2.trans x2').1).repR qf) qf
  have rdk : RD c.K c.w H2 G3 kv dk := by
    cases rk with
    | val d =>
      have ed : d = dk := Option.some.inj qr
      subst ed
      exact Rep.rd E3.gh (Rep.mono x3.1 (show Rep c.K c.w G2' kv d from p2))
    | fr d =>
      have ed : d = dk := Option.some.inj qr
      subst ed
      exact Rep.rd E3.gh (Rep.mono x3.1 (show Rep c.K c.w G2' kv d from p2))
    | slot j => exact E3.slot_rd qr p2
  have X3 : Ext B G G3 := (x1.trans x1').trans ((x2.trans x2').trans x3)
  have K3 := (k1.trans k2).trans k3
  split at qm
  · rename_i t kvs q3
    obtain ⟨hk, hl, _, rfl, qn⟩ := qm
    obtain ⟨b, ob, n1, n2, n3, n4, n5⟩ := E3.own i _ q3
    rw [m1] at n1
    cases n1
    have rk' := keyOk_rep hk rdk
    cases t with
    | false =>
      obtain ⟨κ, rfl⟩ := isK_key (d := dk) hk
      obtain ⟨ws, rfl, rr⟩ := n5
      refine .inr ⟨a, _, rfl, by rw [Rep.key rk']; exact DPut.k n4 (by rw [rr.length]; exact hl), ?_⟩
      exact ⟨_, G3, qn, E3.setOwn q3 m1 ⟨_, rfl, rr.put p3⟩, X3, (K3.trans (keeps_own q3)).bors σ⟩
    | true =>
      obtain ⟨κ, rfl⟩ := isKT_keys (d := dk) hk
      obtain ⟨ws, rfl, rr⟩ := n5
      obtain ⟨bk, rfl, hb⟩ := Rep.keys rk'
      refine .inr ⟨a, _, rfl, DPut.t n4 (E3.gh _ _ hb) (by rw [rr.length]; exact hl), ?_⟩
      exact ⟨_, G3, qn, E3.setOwn q3 m1 ⟨_, rfl, rr.put p3⟩, X3, (K3.trans (keeps_own q3)).bors σ⟩
  · rename_i ds q3
    obtain ⟨kk, j, rfl, hj, _, rfl, qn⟩ := qm
    obtain ⟨b, ob, n1, n2, n3, n4, ws, rfl, rr⟩ := E3.own i _ q3
    rw [m1] at n1
    cases n1
    cases rdk
    refine .inl ⟨a, ws, kk, j, rfl, rfl, n4, by rw [rr.length]; exact hj, ?_⟩
    exact ⟨_, G3, qn, E3.setOwn q3 m1 ⟨_, rfl, RepL.set p3 j rr⟩, X3, (K3.trans (keeps_own q3)).bors σ⟩
  · exact qm.elim
end
end VS

namespace VS
open PySem PySem.Spec L2

/-! ### targets -/
abbrev GT := D → Env → (Env → Prop) → Prop
def TUg (X : Cx) (tg : Expr) : TG := fun v σ H Q => ∀ (pins : List (Addr × Obj)) (s : Shared) (u : Value), Inv X pins σ H s → RelV v u →
  wpAny (model X.prog X.w) X.A (assign tg X.env u) (fun _ s' => ∃ σ' H', Inv X pins σ' H' s' ∧ Q σ' H') X.xe s
theorem pg_tu {X : Cx} {tg : Expr} : PG X tg (TUg X tg) := ⟨fun pins s σ H v u Q I r h => h pins s u I r⟩
def TUgs (X : Cx) (ts : List Expr) : TGs := fun vs σ H Q => ∀ (pins : List (Addr × Obj)) (s : Shared) (us : List Value), Inv X pins σ H s → Vals vs us →
  wpAny (model X.prog X.w) X.A (assignInOrder ((assignEach ts X.env).map (·.2)) us) (fun _ s' => ∃ σ' H', Inv X pins σ' H' s' ∧ Q σ' H') X.xe s
theorem pgs_tu {X : Cx} {ts : List Expr} : PGs X ts (TUgs X ts) := ⟨fun pins s σ H v u Q I r h => h pins s u I r⟩
theorem TUg.imp {X : Cx} {tg : Expr} {v : V} {σ : St} {H : Hp} {Q Q' : St → Hp → Prop} (h : TUg X tg v σ H Q) (q : ∀ σ' H', Q σ' H' → Q' σ' H') : TUg X tg v σ H Q' := fun pins s u I r =>
  thn (h pins s u I r) fun _ _ ⟨σ', H', I', z⟩ => ⟨σ', H', I', q σ' H' z⟩
theorem TUgs.imp {X : Cx} {tg : List Expr} {v : List V} {σ : St} {H : Hp} {Q Q' : St → Hp → Prop} (h : TUgs X tg v σ H Q) (q : ∀ σ' H', Q σ' H' → Q' σ' H') : TUgs X tg v σ H Q' := fun pins s u I r =>
  thn (h pins s u I r) fun _ _ ⟨σ', H', I', z⟩ => ⟨σ', H', I', q σ' H' z⟩
/-- the slots beside these are as before -/
def Tch (is : List Nat) (σ σ' : St) : Prop := σ'.length = σ.length ∧ ∀ j, j ∉ is → σ'[j]? = σ[j]?
def GQ (c : Cfg) (G B H : Hp) (σ : St) (env : Env) (is : List Nat) (Q : Env → Prop) : St → Hp → Prop := fun σ' H' => H' = H ∧ Tch is σ σ' ∧ ∃ env', Q env' ∧ RepEnv c G B H σ' env' ∧ BorS env env' σ σ'
structure VG (c : Cfg) (tg : Expr) (is : List Nat) (t : GT) : Prop where
  run : ∀ (X : Cx), Good c X → ∀ (G B H : Hp) (σ : St) (env : Env) (d : D) (v : V) (Q : Env → Prop), RepEnv c G B H σ env → Rep c.K c.w G v d → t d env Q → TUg X tg v σ H (GQ c G B H σ env is Q)
structure VGs (c : Cfg) (tg : List Expr) (is : List Nat) (t : List D → Env → (Env → Prop) → Prop) : Prop where
  run : ∀ (X : Cx), Good c X → ∀ (G B H : Hp) (σ : St) (env : Env) (ds : List D) (vs : List V) (Q : Env → Prop), RepEnv c G B H σ env → RepL c.K c.w G vs ds → t ds env Q → TUgs X tg vs σ H (GQ c G B H σ env is Q)
def gNm (i : Nat) : GT := fun d env Q => ∃ e', env.set i (.val d) = e' ∧ Q e'
def gsNil : List D → Env → (Env → Prop) → Prop := fun ds env Q => ds = [] ∧ Q env
def gsCons (t : GT) (u : List D → Env → (Env → Prop) → Prop) : List D → Env → (Env → Prop) → Prop := fun ds env Q => match ds with
  | d :: ds => t d env fun e => u ds e Q
  | [] => False
def gTp (n : Nat) (t : List D → Env → (Env → Prop) → Prop) : GT := fun d env Q => match d with
  | .tup ds => ds.length = n ∧ t ds env Q
  | .ktup ds => ds.length = n ∧ t ds env Q
  | _ => False
theorem Tch.refl (is : List Nat) (σ : St) : Tch is σ σ := ⟨rfl, fun _ _ => rfl⟩
theorem assignEach_len {env : PySem.Env} : ∀ (es : List Expr), (assignEach es env).length = es.length
  | [] => rfl
  | e :: es => by cases e <;> simp [assignEach, assignEach_len es]
theorem assign_cons {e : Expr} {es : List Expr} {env : PySem.Env} (h : noStar e = true) : assignEach (e :: es) env = (false, assign e env) :: assignEach es env := by
  cases e <;> first | rfl | cases h
theorem assign_nostar {env : PySem.Env} : ∀ {es : List Expr}, es.all noStar = true → (assignEach es env).findIdx? (·.1) = none
  | [], _ => rfl
  | e :: es, h => by
    rw [List.all_cons, Bool.and_eq_true] at h
    rw [assign_cons h.1, List.findIdx?_cons, assign_nostar h.2]
    rfl
section
variable {c : Cfg} {pos : Pos}
theorem vg_name {i : Nat} {x : Str} (hx : StoC c i x) : VG c (.Name x pos) [i] (gNm i) := by
  constructor
  intro X g G B H σ env d v Q E r q pins s u I ru
  obtain ⟨_, rfl, q⟩ := q
  have z := (pg_name (pos := pos) g.nd (i := i) (x := x) (by rw [g.N]; exact hx.1) (by rw [g.scope]; exact hx.2.1) (by rw [g.fn, g.scope]; exact hx.2.2)).run pins s σ H v u (fun σ' H' => σ' = σ.set i (some v) ∧ H' = H) I ru ⟨rfl, rfl⟩
  have hi : i < env.length := by
    rw [← E.len, I.len, g.N]
    exact (List.getElem?_eq_some_iff.mp hx.1).1
  refine thn z fun _ s' ⟨σ', H', I', e1, e2⟩ => ⟨σ', H', I', e2, ?_, env.set i (.val d), q, ?_, ?_⟩
  · subst e1
    exact ⟨List.length_set, fun j hj => List.getElem?_set_ne fun z => hj (by simp [z])⟩
  · subst e1
    exact E.setVal hi r
  · subst e1
    exact bors_set hi fun d h => by cases h
theorem vgs_nil : VGs c [] [] gsNil := by
  constructor
  intro X g G B H σ env ds vs Q E r q pins s us I ru
  obtain ⟨rfl, q⟩ := q
  cases r
  exact pgs_nil.run pins s σ H [] us _ I ru ⟨rfl, rfl, Tch.refl _ _, env, q, E, BorS.refl _ _⟩
theorem vgs_cons {e : Expr} {es : List Expr} {is js : List Nat} {t : GT} {u : List D → Env → (Env → Prop) → Prop} (h1 : VG c e is t) (h2 : VGs c es js u) (hn : noStar e = true := by rfl) : VGs c (e :: es) (is ++ js) (gsCons t u) := by
  constructor
  intro X g G B H σ env ds vs Q E r q pins s us I ru
  cases r with
  | nil => exact False.elim q
  | @cons v vs d ds rv rr =>
  refine (pgs_cons (pg_tu (tg := e)) (pgs_tu (ts := es)) (by rw [assign_cons hn]; rfl)).run pins s σ H _ us _ I ru ⟨v, vs, rfl, ?_⟩
  refine (h1.run X g G B H σ env d v _ E rv q).imp fun σ1 H1 ⟨eh, tc, e1, q1, E1, b1⟩ => ?_
  subst eh
  refine (h2.run X g G B H1 σ1 e1 ds vs Q E1 rr q1).imp fun σ2 H2 ⟨eh, tc2, e2, q2, E2, b2⟩ => ⟨eh, ⟨tc2.1.trans tc.1, fun j hj => ?_⟩, e2, q2, E2, BorS.trans b1 b2⟩
  rw [List.mem_append] at hj
  rw [tc2.2 j fun z => hj (.inr z), tc.2 j fun z => hj (.inl z)]
theorem vg_tup {es : List Expr} {k : Nat} {is : List Nat} {t : List D → Env → (Env → Prop) → Prop} (h : VGs c es is t) (hn : es.all noStar = true := by rfl) (hc : c.calm = true := by rfl) : VG c (.Tuple es k pos) is (gTp es.length t) := by
  constructor
  intro X g G B H σ env d v Q E r q pins s u I ru
  refine (pg_tup (k := k) (pos := pos) (g.calm hc) (pgs_tu (ts := es)) (assignEach_len es) (assign_nostar hn)).run pins s σ H v u _ I ru ?_
  cases d <;> try exact False.elim q
  · cases r with
    | @tup a vs _ hq rr =>
    exact ⟨a, vs, rfl, SqT.of (E.gh _ _ hq), by rw [rr.length]; exact q.1, h.run X g G B H σ env _ vs Q E rr q.2⟩
  · cases r with
    | @ktup a vs _ hq rr =>
    exact ⟨a, vs, rfl, .inr (by rw [g.K]; exact hq), by rw [rr.length]; exact q.1, h.run X g G B H σ env _ vs Q E rr q.2⟩
/-- a, b = e -/
def sAsg (g : GT) (t : ET) : STt := fun D env => t env (fun rv e1 => ∃ d e2, fz e1 rv = some (d, e2) ∧ g d e2 D.nx) D.xq
theorem vs_asg {tg e : Expr} {is : List Nat} {t : ET} {gt : GT} (hg : VG c tg is gt) (h : VE c e t) (hs : ∀ env : PySem.Env, swapsWithSole [tg] e pos.line env = pure false := by intros; rfl) (hw : ∀ env : PySem.Env, swappedStores [tg] e env = pure none := by intros; rfl)
    (hn : noStar tg = true := by rfl) : VS1 c (.Assign [tg] e pos) (sAsg gt t) := by
  constructor
  intro X g G B H σ env D E q tk
  refine TUs.of (ps_asg (pe_tu (e := e)) (pg_tu (tg := tg)) (hs X.env) (hw X.env) (by rw [assign_cons hn]; rfl)) ?_
  refine (h.run X g G B H σ env _ D.xq E q tk).imp fun v H1 ⟨rv, e1, G1, ⟨d, e2, qf, qg⟩, E1, x1, k1, r1⟩ => ?_
  obtain ⟨G2, x2, E2, r2, k2⟩ := r1.fz E1 qf
  refine (hg.run X g G2 B H1 σ e2 d v _ E2 r2 qg).imp fun σ' H' ⟨eh, tc, e3, q3, E3, b3⟩ => ?_
  subst eh
  exact ⟨e3, G2, q3, E3, x1.trans x2, BorS.trans ((k1.trans k2).bors σ) b3⟩

/-! ### while -/
@[irreducible] def WW (t : TTt) (b : STt) (D : EndsD) (env : Env) : Prop := ∃ I : Nat → Env → Prop, (∃ m, I m env) ∧ ∀ m env, I m env →
  t env (fun k e1 => if k = true then b { D with nx := fun e2 => ∃ m', m' < m ∧ I m' e2, ct := fun e2 => ∃ m', m' < m ∧ I m' e2, bk := D.nx } e1 else D.nx e1) D.xq
def sWhile (t : TTt) (b : STt) : STt := fun D env => WW t b D env
theorem WW_eq {t : TTt} {b : STt} {D : EndsD} {env : Env} : WW t b D env = ∃ I : Nat → Env → Prop, (∃ m, I m env) ∧ ∀ m env, I m env →
  t env (fun k e1 => if k = true then b { D with nx := fun e2 => ∃ m', m' < m ∧ I m' e2, ct := fun e2 => ∃ m', m' < m ∧ I m' e2, bk := D.nx } e1 else D.nx e1) D.xq := by unfold WW; rfl
/-- I by a number that falls -/
theorem while_inv {t : TTt} {b : STt} {D : EndsD} {env : Env} (I : Nat → Env → Prop) (m : Nat) (h0 : I m env)
    (step : ∀ m e, I m e → ∀ K : Env → Prop, (∀ m' e', m' < m → I m' e' → K e') → t e (fun k e1 => if k = true then b { D with nx := K, ct := K, bk := D.nx } e1 else D.nx e1) D.xq) : WW t b D env := by
  rw [WW_eq]
  exact ⟨I, ⟨m, h0⟩, fun m e h => step m e h _ fun m' e' hm hi => ⟨m', hm, hi⟩⟩
theorem vs_while {e : Expr} {body : List Stmt} {t : TTt} {b : STt} (ht : VT c e t) (hb : VSs c body b) : VS1 c (.While e body [] pos) (sWhile t b) := by
  constructor
  intro X g G B H σ env D E q tk
  refine TUs.of (ps_while g.po (pt_tu (e := e)) (pss_tu (st := body))) ?_
  have q : WW t b D env := q
  rw [WW_eq] at q
  obtain ⟨I, ⟨m0, i0⟩, turn⟩ := q
  refine ⟨fun m σ' H' => ∃ env' G', I m env' ∧ RepEnv c G' B H' σ' env' ∧ Ext B G G' ∧ BorS env env' σ σ', ⟨m0, env, G, i0, E, Ext.refl _ _, BorS.refl _ _⟩, ?_⟩
  rintro m σ1 H1 ⟨e1, G1, i1, E1, x1, b1⟩
  refine (ht.run X g G1 B H1 σ1 e1 _ D.xq E1 (turn m e1 i1) (takes_ups tk x1 b1)).imp fun k H2 ⟨e2, G2, q2, E2, x2, k2⟩ => ?_
  have X2 := x1.trans x2
  have B2 := BorS.trans b1 (k2.bors σ1)
  cases k with
  | true =>
    rw [if_pos rfl] at q2 ⊢
    refine ⟨fun σ' H' => ∃ m', m' < m ∧ ∃ env' G', I m' env' ∧ RepEnv c G' B H' σ' env' ∧ Ext B G G' ∧ BorS env env' σ σ', fun σ' H' h => h, ?_⟩
    refine TUss.imp ?_ (hb.run X g G2 B H2 σ1 e2 _ E2 q2 (takes_ups tk X2 B2))
    exact ⟨fun σ' H' ⟨e3, G3, ⟨m', hm, i3⟩, E3, x3, b3⟩ => ⟨m', hm, e3, G3, i3, E3, X2.trans x3, BorS.trans B2 b3⟩, fun v H' h => ER.up h X2 B2, fun σ' H' h => EN.up h X2 B2,
      fun σ' H' ⟨e3, G3, ⟨m', hm, i3⟩, E3, x3, b3⟩ => ⟨m', hm, e3, G3, i3, E3, X2.trans x3, BorS.trans B2 b3⟩⟩
  | false =>
    rw [if_neg (by decide)] at q2 ⊢
    exact ⟨e2, G2, q2, E2, X2, B2⟩
end

/-! ### what is walked -/
/-- the iterator J gives these, one by one, as long as what is shared or lent stays -/
structure Walks (c : Cfg) (G B : Hp) (J : It) (ds : List D) : Prop where
  go : ∀ (i : Nat) (d : D) (G' H' : Hp), ds[i]? = some d → Same G' H' → Same B H' → Same G G' → J.go i H' ∧ ∀ x H'', J.yld i H' x H'' → ∃ G'', Res G' H' G'' H'' ∧ Rep c.K c.w G'' x d
  stop : ∀ (G' H' : Hp), Same G' H' → Same B H' → Same G G' → J.stop ds.length H'
/-- the slot whose list is walked is locked meanwhile -/
inductive Lk (c : Cfg) (G B H : Hp) (σ : St) (e1 : Env) : Option Nat → Hp → Env → Prop
  | no : Lk c G B H σ e1 none B e1
  | yes {i : Nat} {a : Addr} {o : HO} {d : D} : e1[i]? = some (.own d) → σ[i]? = some (some (V.ref a)) → G a = none → B a = none → H a = some o → OwnO c.K c.w G d o → Lk c G B H σ e1 (some i) (upd B a o) (e1.set i (.bor d))
def lockE (lk : Option Nat) (env : Env) : Env := match lk with
  | none => env
  | some i => match env[i]? with
    | some (.own d) => env.set i (.bor d)
    | _ => env
def unl (lk : Option Nat) (env : Env) : Env := match lk with
  | none => env
  | some i => match env[i]? with
    | some (.bor d) => env.set i (.own d)
    | _ => env
theorem set_cases {env : Env} {i : Nat} {s : Slot} (hi : i < env.length) {j : Nat} {u : Slot} (e : (env.set i s)[j]? = some u) : (j = i ∧ u = s) ∨ (j ≠ i ∧ env[j]? = some u) := by
  by_cases z : j = i
  · subst z
    rw [List.getElem?_set_self hi] at e
    exact .inl ⟨rfl, (Option.some.inj e).symm⟩
  · rw [List.getElem?_set_ne (Ne.symm z)] at e
    exact .inr ⟨z, e⟩
section
variable {c : Cfg} {G B H B' : Hp} {σ : St} {e1 e1' : Env} {lk : Option Nat}
theorem Lk.env (L : Lk c G B H σ e1 lk B' e1') : e1' = lockE lk e1 := by
  cases L with
  | no => rfl
  | yes h1 _ _ _ _ _ => unfold lockE; simp [h1]
theorem Lk.same (L : Lk c G B H σ e1 lk B' e1') : Same B B' := by
  cases L with
  | no => exact Same.refl _
  | yes h1 _ _ h4 _ _ => exact same_new h4
theorem Lk.ok (E : RepEnv c G B H σ e1) (L : Lk c G B H σ e1 lk B' e1') : RepEnv c G B' H σ e1' := by
  cases L with
  | no => exact E
  | @yes i a o d h1 h2 h3 h4 h5 h6 =>
    have hi : i < e1.length := (List.getElem?_eq_some_iff.mp h1).1
    refine ⟨E.gh, fun b u e => ?_, by rw [List.length_set]; exact E.len, fun j dj e => ?_, fun j dj e => ?_, fun j dj e => ?_, fun j k dj dk b ej ek => ?_⟩
    · by_cases z : b = a
      · subst z
        rw [upd_same] at e
        cases e
        exact h5
      · rw [upd_ne z] at e
        exact E.bh b u e
    · rcases set_cases hi e with ⟨rfl, z⟩ | ⟨ne, e'⟩
      · cases z
      · exact E.val j dj e'
    · rcases set_cases hi e with ⟨rfl, z⟩ | ⟨ne, e'⟩
      · cases z
      · obtain ⟨b, ob, k1, k2, k3, k4, k5⟩ := E.own j dj e'
        have nb : b ≠ a := fun z => ne (E.dis j i dj d a e' h1 (by rw [← z]; exact k1) h2)
        exact ⟨b, ob, k1, k2, by rw [upd_ne nb]; exact k3, k4, k5⟩
    · rcases set_cases hi e with ⟨rfl, z⟩ | ⟨ne, e'⟩
      · cases z
        exact ⟨_, h2, h6.rd upd_same⟩
      · obtain ⟨v, k1, k2⟩ := E.bor j dj e'
        exact ⟨v, k1, k2.mono (same_new h4) (Same.refl _)⟩
    · rcases set_cases hi ej with ⟨rfl, z⟩ | ⟨ne, e'⟩
      · cases z
      · rcases set_cases hi ek with ⟨rfl, z⟩ | ⟨ne', e''⟩
        · cases z
        · exact E.dis j k dj dk b e' e''
theorem Lk.un {G3 H' : Hp} {σ' : St} {e3 : Env} (E : RepEnv c G B H σ e1) (L : Lk c G B H σ e1 lk B' e1') (E3 : RepEnv c G3 B' H' σ' e3) (x : Ext B' G G3) (b : BorS e1' e3 σ σ') :
    RepEnv c G3 B H' σ' (unl lk e3) ∧ Ext B G G3 ∧ BorS e1 (unl lk e3) σ σ' ∧ ∀ v rv, RepR c G3 B' H' σ' e3 v rv → RepR c G3 B H' σ' (unl lk e3) v rv := by
  cases L with
  | no => exact ⟨E3, x, b, fun v rv h => h⟩
  | @yes i a o d h1 h2 h3 h4 h5 h6 =>
    have xB : Ext B G G3 := x.less (same_new h4)
    have hi : i < e1.length := (List.getElem?_eq_some_iff.mp h1).1
    have base : RepEnv c G3 (upd B a o) H' σ' e3 → (∀ di, e3[i]? ≠ some (Slot.bor di)) → RepEnv c G3 B H' σ' e3 := fun E3 no => by
      refine ⟨E3.gh, (same_new h4).trans E3.bh, E3.len, E3.val, fun j dj e => ?_, fun j dj e => ?_, E3.dis⟩
      · obtain ⟨q, oq, k1, k2, k3, k4, k5⟩ := E3.own j dj e
        exact ⟨q, oq, k1, k2, (same_new h4).free k3, k4, k5⟩
      · obtain ⟨b1, b2⟩ := b j dj e
        rcases set_cases hi b1 with ⟨rfl, z⟩ | ⟨ne, e'⟩
        · exact absurd e (no dj)
        · obtain ⟨v, k1, k2⟩ := E.bor j dj e'
          exact ⟨v, by rw [b2]; exact k1, k2.mono (Same.refl _) xB.1⟩
    have bb : ∀ j dj, e3[j]? = some (Slot.bor dj) → j ≠ i → e1[j]? = some (Slot.bor dj) ∧ σ'[j]? = σ[j]? := fun j dj e ne => by
      obtain ⟨b1, b2⟩ := b j dj e
      rcases set_cases hi b1 with ⟨z, _⟩ | ⟨_, e'⟩
      · exact absurd z ne
      · exact ⟨e', b2⟩
    cases q : e3[i]? with
    | none =>
      have eu : unl (some i) e3 = e3 := by unfold unl; simp [q]
      rw [eu]
      refine ⟨base E3 (fun di z => by rw [q] at z; cases z), xB, fun j dj e => ?_, fun v rv h => ?_⟩
      · exact bb j dj e (fun z => by subst z; rw [q] at e; cases e)
      · cases rv with
        | val dv => exact h
        | slot j => exact h
        | fr dv =>
          obtain ⟨p, op, r1, r2, r3, r4, r5, r6⟩ := h
          exact ⟨p, op, r1, r2, (same_new h4).free r3, r4, r5, r6⟩
    | some s =>
      cases s with
      | bor di =>
        obtain ⟨b1, b2⟩ := b i di q
        rw [List.getElem?_set_self hi] at b1
        have edi : d = di := by cases b1; rfl
        subst edi
        have eu : unl (some i) e3 = e3.set i (.own d) := by unfold unl; simp [q]
        rw [eu]
        have hi3 : i < e3.length := (List.getElem?_eq_some_iff.mp q).1
        have es : σ'[i]? = some (some (V.ref a)) := by rw [b2]; exact h2
        have g3 : G3 a = none := x.none h3 ⟨_, upd_same, h6.notTup⟩
        have nown : ∀ j dj, e3[j]? = some (Slot.own dj) → σ'[j]? ≠ some (some (V.ref a)) := fun j dj e z => by
          obtain ⟨q', oq, k1, k2, k3, k4, k5⟩ := E3.own j dj e
          rw [z] at k1
          cases k1
          rw [upd_same] at k3
          cases k3
        refine ⟨⟨E3.gh, (same_new h4).trans E3.bh, by rw [List.length_set]; exact E3.len, fun j dj e => ?_, fun j dj e => ?_, fun j dj e => ?_, fun j k dj dk p ej ek s1 s2 => ?_⟩, xB, fun j dj e => ?_, fun v rv h => ?_⟩
        · rcases set_cases hi3 e with ⟨rfl, z⟩ | ⟨ne, e'⟩
          · cases z
          · exact E3.val j dj e'
        · rcases set_cases hi3 e with ⟨rfl, z⟩ | ⟨ne, e'⟩
          · cases z
            exact ⟨a, o, es, g3, h4, E3.bh _ _ upd_same, h6.mono xB.1⟩
          · obtain ⟨q', oq, k1, k2, k3, k4, k5⟩ := E3.own j dj e'
            exact ⟨q', oq, k1, k2, (same_new h4).free k3, k4, k5⟩
        · rcases set_cases hi3 e with ⟨rfl, z⟩ | ⟨ne, e'⟩
          · cases z
          · obtain ⟨e4, e5⟩ := bb j dj e' ne
            obtain ⟨v, k1, k2⟩ := E.bor j dj e4
            exact ⟨v, by rw [e5]; exact k1, k2.mono (Same.refl _) xB.1⟩
        · rcases set_cases hi3 ej with ⟨rfl, z⟩ | ⟨ne, e'⟩
          · rcases set_cases hi3 ek with ⟨rfl, z'⟩ | ⟨ne', e''⟩
            · rfl
            · rw [es] at s1
              cases s1
              exact absurd s2 (nown k dk e'')
          · rcases set_cases hi3 ek with ⟨rfl, z'⟩ | ⟨ne', e''⟩
            · rw [es] at s2
              cases s2
              exact absurd s1 (nown j dj e')
            · exact E3.dis j k dj dk p e' e'' s1 s2
        · rcases set_cases hi3 e with ⟨rfl, z⟩ | ⟨ne, e'⟩
          · cases z
          · exact bb j dj e' ne
        · cases rv with
          | val dv => exact h
          | slot j =>
            refine ⟨h.1, ?_⟩
            obtain ⟨dj, hj⟩ := h.2
            by_cases z : j = i
            · subst z
              exact ⟨d, by unfold rd; simp [hi3]⟩
            · refine ⟨dj, ?_⟩
              unfold rd at hj ⊢
              simp only [List.getElem?_set_ne (Ne.symm z)] at hj ⊢
              exact hj
          | fr dv =>
            obtain ⟨p, op, r1, r2, r3, r4, r5, r6⟩ := h
            refine ⟨p, op, r1, r2, (same_new h4).free r3, r4, r5, fun j dj ej => ?_⟩
            rcases set_cases hi3 ej with ⟨rfl, z⟩ | ⟨ne, e'⟩
            · rw [es]
              intro z
              cases z
              rw [upd_same] at r3
              cases r3
            · exact r6 j dj e'
      | _ =>
        have eu : unl (some i) e3 = e3 := by unfold unl; simp [q]
        rw [eu]
        refine ⟨base E3 (fun di z => by rw [q] at z; cases z), xB, fun j dj e => ?_, fun v rv h => ?_⟩
        · exact bb j dj e (fun z => by subst z; rw [q] at e; cases e)
        · cases rv with
          | val dv => exact h
          | slot j => exact h
          | fr dv =>
            obtain ⟨p, op, r1, r2, r3, r4, r5, r6⟩ := h
            exact ⟨p, op, r1, r2, (same_new h4).free r3, r4, r5, r6⟩
end
abbrev IT := Env → (List D → Option Nat → Env → Prop) → XQ → Prop
def TUi (X : Cx) (tg iter : Expr) : TI := fun σ H R => ∀ (pins : List (Addr × Obj)) (s : Shared), Inv X pins σ H s →
  wpAny (model X.prog X.w) X.A (eval iter X.env) (fun v s1 => wpAny (model X.prog X.w) X.A (pyIter v) (PIE X pins σ tg R) X.xe s1) X.xe s
theorem pi_tu {X : Cx} {tg iter : Expr} : PI X tg iter (TUi X tg iter) := ⟨fun pins s σ H R I h => h pins s I⟩
def IQ (c : Cfg) (G B : Hp) (σ : St) (env : Env) (Q : List D → Option Nat → Env → Prop) : It → Hp → Prop := fun J H' =>
  ∃ ds lk e1 e1' G' B', Q ds lk e1 ∧ RepEnv c G' B H' σ e1 ∧ Ext B G G' ∧ Keeps env e1 ∧ Lk c G' B H' σ e1 lk B' e1' ∧ Walks c G' B' J ds
structure VI (c : Cfg) (tg iter : Expr) (t : IT) : Prop where
  run : ∀ (X : Cx), Good c X → ∀ (G B H : Hp) (σ : St) (env : Env) (Q : List D → Option Nat → Env → Prop) (Xq : XQ),
  RepEnv c G B H σ env → t env Q Xq → TakesC c X (WXo c G B σ env Xq) → TUi X tg iter σ H (IQ c G B σ env Q)
theorem TUi.imp {X : Cx} {tg iter : Expr} {σ : St} {H : Hp} {R R' : It → Hp → Prop} (h : TUi X tg iter σ H R) (q : ∀ J H', R J H' → R' J H') : TUi X tg iter σ H R' := fun pins s I =>
  thn (h pins s I) fun v s1 z => thn z fun itv s2 ⟨it, fp, tn, J, H', a, b, c, d, e, f⟩ => ⟨it, fp, tn, J, H', a, b, c, d, e, q J H' f⟩

/-! ### for -/
def wIter (g : GT) (b : STt) (D : EndsD) : List VS.D → Env → Prop
  | [], env => D.nx env
  | d :: ds, env => g d env fun e1 => b { D with nx := wIter g b D ds, ct := wIter g b D ds, bk := D.nx } e1
def unlD (lk : Option Nat) (D : EndsD) : EndsD := { nx := fun e => D.nx (unl lk e), rt := fun r e => D.rt r (unl lk e), bk := fun e => D.bk (unl lk e), ct := fun e => D.ct (unl lk e), xq := fun x e => D.xq x (unl lk e) }
@[irreducible] def WL (g : GT) (b : STt) (D : EndsD) (ds : List VS.D) (env : Env) : Prop := wIter g b D ds env
theorem WL_eq {g : GT} {b : STt} {D : EndsD} {ds : List VS.D} {env : Env} : WL g b D ds env = wIter g b D ds env := by unfold WL; rfl
def sFor (it : IT) (g : GT) (b : STt) : STt := fun D env => it env (fun ds lk e1 => WL g b (unlD lk D) ds (lockE lk e1)) D.xq
section
variable {c : Cfg} {pos : Pos}
theorem vs_for {tg iter : Expr} {body : List Stmt} {is : List Nat} {it : IT} {gt : GT} {b : STt} (hi : VI c tg iter it) (hg : VG c tg is gt) (hb : VSs c body b) (hs : ∀ (env : PySem.Env) (x : Value), foldedSetIterable iter env x = pure x := by intros; rfl) (hc : c.calm = true := by rfl) : VS1 c (.For tg iter body [] pos) (sFor it gt b) := by
  constructor
  intro X g G B H σ env D E q tk
  refine TUs.of (ps_for g.po (g.calm hc) (pi_tu (tg := tg) (iter := iter)) (pg_tu (tg := tg)) (pss_tu (st := body)) (hs X.env)) ?_
  refine (hi.run X g G B H σ env _ D.xq E q tk).imp fun J H1 ⟨ds, lk, e1, e1', G1, B', q1, E1, x1, k1, L, Wk⟩ => ?_
  have L' := L
  have q1 : WL gt b (unlD lk D) ds (lockE lk e1) := q1
  rw [WL_eq] at q1
  rw [← L.env] at q1
  have X0 := x1
  have B0 := k1.bors σ
  -- out of the loop
  have out : ∀ {σ' : St} {H' : Hp} {e3 : Env} {G3 : Hp} {P : Env → Prop}, P (unl lk e3) → RepEnv c G3 B' H' σ' e3 → Ext B' G1 G3 → BorS e1' e3 σ σ' → EN c G B σ env P σ' H' := fun p E3 x3 b3 => by
    obtain ⟨u1, u2, u3, _⟩ := L.un E1 E3 x3 b3
    exact ⟨_, _, p, u1, X0.trans u2, BorS.trans B0 u3⟩
  refine ⟨fun i m σ' H' => m = ds.length - i ∧ i ≤ ds.length ∧ ∃ e3 G3, wIter gt b (unlD lk D) (ds.drop i) e3 ∧ RepEnv c G3 B' H' σ' e3 ∧ Ext B' G1 G3 ∧ BorS e1' e3 σ σ', ⟨ds.length, by simp, Nat.zero_le _, e1', G1, by simpa using q1, L.ok E1, Ext.refl _ _, BorS.refl _ _⟩, ?_⟩
  rintro i m σ' H' ⟨rfl, hl, e3, G3, q3, E3, x3, b3⟩
  by_cases hlt : i < ds.length
  · obtain ⟨w1, w2⟩ := Wk.go i ds[i] G3 H' (List.getElem?_eq_getElem hlt) E3.gh E3.bh x3.1
    refine .inr ⟨w1, fun σ4 H4 => i + 1 ≤ ds.length ∧ ∃ e4 G4, wIter gt b (unlD lk D) (ds.drop (i + 1)) e4 ∧ RepEnv c G4 B' H4 σ4 e4 ∧ Ext B' G1 G4 ∧ BorS e1' e4 σ σ4, fun σ4 H4 h => ⟨ds.length - (i + 1), by omega, rfl, h⟩, fun x H5 y => ?_⟩
    obtain ⟨G5, res, rx⟩ := w2 x H5 y
    rw [List.drop_eq_getElem_cons hlt] at q3
    have E5 := E3.go res
    have x5 := x3.trans (res.ext E3.bh)
    refine (hg.run X g G5 B' H5 σ' e3 ds[i] x _ E5 rx q3).imp fun σ6 H6 ⟨eh, tc, e6, q6, E6, b6⟩ => ?_
    subst eh
    have B6 := BorS.trans b3 b6
    have tk6 : TakesC c X (WXo c G5 B' σ6 e6 (unlD lk D).xq) := tk.imp fun cls d σ7 H7 ⟨xd, e7, G7, q7, E7, x7, b7, r7⟩ => by
      obtain ⟨u1, u2, u3, _⟩ := L.un E1 E7 (x5.trans x7) (BorS.trans B6 b7)
      exact ⟨xd, _, G7, q7, u1, X0.trans u2, BorS.trans B0 u3, r7⟩
    refine TUss.imp ?_ (hb.run X g G5 B' H6 σ6 e6 _ E6 q6 tk6)
    have nx : ∀ σ7 H7, EN c G5 B' σ6 e6 (wIter gt b (unlD lk D) (ds.drop (i + 1))) σ7 H7 → i + 1 ≤ ds.length ∧ ∃ e4 G4, wIter gt b (unlD lk D) (ds.drop (i + 1)) e4 ∧ RepEnv c G4 B' H7 σ7 e4 ∧ Ext B' G1 G4 ∧ BorS e1' e4 σ σ7 :=
      fun σ7 H7 ⟨e7, G7, q7, E7, x7, b7⟩ => ⟨hlt, e7, G7, q7, E7, x5.trans x7, BorS.trans B6 b7⟩
    refine ⟨nx, fun v H7 ⟨rv, e7, G7, σ7, q7, E7, x7, b7, r7⟩ => ?_, fun σ7 H7 ⟨e7, G7, q7, E7, x7, b7⟩ => out q7 E7 (x5.trans x7) (BorS.trans B6 b7), nx⟩
    obtain ⟨u1, u2, u3, u4⟩ := L.un E1 E7 (x5.trans x7) (BorS.trans B6 b7)
    exact ⟨rv, _, G7, σ7, q7, u1, X0.trans u2, BorS.trans B0 u3, u4 v rv r7⟩
  · have e : i = ds.length := by omega
    subst e
    refine .inl ⟨Wk.stop G3 H' E3.gh E3.bh x3.1, ?_⟩
    rw [List.drop_length] at q3
    exact out q3 E3 x3 b3
end
end VS

namespace VS
open PySem PySem.Spec L2

/-! ### iterables -/
def signs (x : Str) : List D := x.cps.toList.map fun ch => .str ⟨#[ch]⟩
/-- by a value: what is walked of it -/
def seqOf : D → Option (List D)
  | .lst ds => some ds
  | .tup ds => some ds
  | .ktup ds => some ds
  | .str x => some (signs x)
  | _ => none
def itR (rv : RV) (e1 : Env) (Q : List D → Option Nat → Env → Prop) : Prop := match rv with
  | .val d => ∃ ds, seqOf d = some ds ∧ Q ds none e1
  | .fr (.lst ds) => Q ds none e1
  | .slot i => match e1[i]? with
    | some (.own (.lst ds)) => Q ds (some i) e1
    | some (.bor (.lst ds)) => Q ds none e1
    | some (.val d) => ∃ ds, seqOf d = some ds ∧ Q ds none e1
    | _ => False
  | _ => False
def iSeq (t : ET) : IT := fun env Q Xq => t env (fun rv e1 => itR rv e1 Q) Xq
section
variable {c : Cfg} {G B : Hp}
theorem walks_list {K : PySem.W.Frag} (hK : K = c.K) {a : Addr} {vs : List V} {ds : List D} (r : RepL c.K c.w G vs ds) (h : ∀ H', Same B H' → (∀ G', Same G G' → Same G' H' → SqL c.K H' a vs)) : Walks c G B (Itl K a) ds := by
  subst hK
  refine ⟨fun i d G' H' e s1 s2 s3 => ?_, fun G' H' s1 s2 s3 => ⟨vs, h H' s2 G' s3 s1, by rw [r.length]; exact Nat.le_refl _⟩⟩
  obtain ⟨v, hv, rv⟩ := r.get e
  refine ⟨⟨vs, v, h H' s2 G' s3 s1, hv⟩, fun x H'' y => ?_⟩
  obtain ⟨e2, y⟩ := y
  have := y vs (h H' s2 G' s3 s1)
  rw [hv] at this
  cases this
  subst e2
  exact ⟨G', Res.refl s1, rv.mono s3⟩
theorem walks_tup {K : PySem.W.Frag} (hK : K = c.K) {a : Addr} {vs : List V} {ds : List D} (r : RepL c.K c.w G vs ds) (h : ∀ H', (∀ G', Same G G' → Same G' H' → SqT c.K H' a vs)) : Walks c G B (Itt K a) ds := by
  subst hK
  refine ⟨fun i d G' H' e s1 s2 s3 => ?_, fun G' H' s1 s2 s3 => ⟨vs, h H' G' s3 s1, by rw [r.length]; exact Nat.le_refl _⟩⟩
  obtain ⟨v, hv, rv⟩ := r.get e
  refine ⟨⟨vs, v, h H' G' s3 s1, hv⟩, fun x H'' y => ?_⟩
  obtain ⟨e2, y⟩ := y
  have := y vs (h H' G' s3 s1)
  rw [hv] at this
  cases this
  subst e2
  exact ⟨G', Res.refl s1, rv.mono s3⟩
theorem walks_str {x : Str} : Walks c G B (Its x) (signs x) := by
  refine ⟨fun i d G' H' e s1 s2 s3 => ?_, fun G' H' s1 s2 s3 => ?_⟩
  · unfold signs at e
    rw [List.getElem?_map] at e
    cases q : x.cps.toList[i]? with
    | none => rw [q] at e; cases e
    | some ch =>
      rw [q] at e
      cases e
      have hi : i < x.cps.size := by simpa using (List.getElem?_eq_some_iff.mp q).1
      refine ⟨hi, fun y H'' z => ?_⟩
      obtain ⟨e1, ch', h1, rfl⟩ := z
      subst e1
      have : ch' = ch := by
        have h2 : x.cps.toList[i]? = some ch' := by simpa using h1
        rw [q] at h2
        exact (Option.some.inj h2).symm
      subst this
      exact ⟨G', Res.refl s1, .str _⟩
  · show x.cps.size ≤ (signs x).length
    simp [signs]
/-- a value is walked -/
def PIv (X : Cx) (tg : Expr) (x : V) (J : It) (H : Hp) : Prop := ∀ (pins : List (Addr × Obj)) (s : Shared) (σ : St) (v : Value) (R : It → Hp → Prop), Inv X pins σ H s → RelV x v → R J H → wpAny (model X.prog X.w) X.A (pyIter v) (PIE X pins σ tg R) X.xe s
theorem piv_list {X : Cx} {tg : Expr} {a : Addr} {xs : List V} {H : Hp} (hq : SqL X.K H a xs) : PIv X tg (.ref a) (Itl X.K a) H := by
  intro pins s1 σ v R I1 r1 q
  cases r1
  obtain ⟨its, rv, p, hz⟩ := I1.list hq
  refine wpAny_pyIter_list p.isList ?_
  refine ⟨s1.heap.objs.size, [s1.heap.objs.size], _, _, H, rfl, I1.kept (t' := s1.toks) fun b o e => Heap.get?_push_of_some _ e, turn_list a _, ⟨_, Heap.get?_push_size _ rfl, rfl, rfl⟩, fun b hb => ?_, q⟩
  have e : b = s1.heap.objs.size := by simpa using hb
  subst e
  exact I1.fpOk (Nat.le_refl _) (I1.hok.fresh (Nat.le_refl _))
theorem piv_tup {X : Cx} {tg : Expr} {a : Addr} {xs : List V} {H : Hp} (hq : SqT X.K H a xs) : PIv X tg (.ref a) (Itt X.K a) H := by
  intro pins s1 σ v R I1 r1 q
  cases r1
  obtain ⟨its, rv, p, hz⟩ := I1.tuple hq
  refine wpAny_pyIter_tuple (show s1.heap.IsTuple a its.toArray from p) ?_
  refine ⟨s1.heap.objs.size, [s1.heap.objs.size], _, _, H, rfl, I1.kept (t' := s1.toks) fun b o e => Heap.get?_push_of_some _ e, turn_tuple a _, ⟨_, Heap.get?_push_size _ rfl, rfl, rfl⟩, fun b hb => ?_, q⟩
  have e : b = s1.heap.objs.size := by simpa using hb
  subst e
  exact I1.fpOk (Nat.le_refl _) (I1.hok.fresh (Nat.le_refl _))
theorem piv_str {X : Cx} {tg : Expr} {x : Str} {H : Hp} : PIv X tg (.str x) (Its x) H := by
  intro pins s1 σ v R I1 r1 q
  obtain ⟨t, rfl⟩ := r1
  cases ha : x.cps.all (· < 128)
  · exact wpAny_pyIter_wide ha (pi_one (tk := s1.toks) I1 _ (turn_str _ x t "str_iterator" (.inr rfl)) ⟨_, Heap.get?_push_size _ rfl, rfl, rfl⟩ q)
  · exact wpAny_pyIter_ascii ha (pi_one (tk := s1.toks) I1 _ (turn_str _ x t "str_ascii_iterator" (.inl rfl)) ⟨_, Heap.get?_push_size _ rfl, rfl, rfl⟩ q)
theorem walk_rep {X : Cx} {tg : Expr} (g : Good c X) {H : Hp} {v : V} {d : D} {ds : List D} (gh : Same G H) (r : Rep c.K c.w G v d) (e : seqOf d = some ds) : ∃ J, PIv X tg v J H ∧ Walks c G B J ds := by
  cases d <;> try (simp [seqOf] at e; done)
  · cases r
    cases e
    exact ⟨_, piv_str, walks_str⟩
  · cases e
    cases r with
    | @tup a vs _ hq rr => exact ⟨_, piv_tup (xs := vs) (SqT.of (gh _ _ hq)), walks_tup g.K rr fun H' G' s1 s2 => SqT.of (s2 _ _ (s1 _ _ hq))⟩
  · cases e
    cases r with
    | @lst a vs _ hq rr => exact ⟨_, piv_list (xs := vs) (.inl (.inl (gh _ _ hq))), walks_list g.K rr fun H' _ G' s1 s2 => .inl (.inl (s2 _ _ (s1 _ _ hq)))⟩
  · cases e
    cases r with
    | @ktup a vs _ hq rr => exact ⟨_, piv_tup (xs := vs) (.inr (by rw [g.K]; exact hq)), walks_tup g.K rr fun H' G' s1 s2 => .inr hq⟩
theorem vi_seq {tg e : Expr} {t : ET} (h : VE c e t) : VI c tg e (iSeq t) := by
  constructor
  intro X g G B H σ env Q Xq E q tk pins s I
  refine thn ((h.run X g G B H σ env _ Xq E q tk) pins s I) fun u s1 ⟨v, H1, I1, ru, rv, e1, G1, q1, E1, x1, k1, r1⟩ => ?_
  have fin : ∀ {J : It} {ds : List D} {lk : Option Nat} {G2 B' : Hp} {e1' : Env}, Q ds lk e1 → RepEnv c G2 B H1 σ e1 → Ext B G1 G2 → Lk c G2 B H1 σ e1 lk B' e1' → Walks c G2 B' J ds → PIv X tg v J H1 → wpAny (model X.prog X.w) X.A (pyIter u) (PIE X pins σ tg (IQ c G B σ env Q)) X.xe s1 :=
    fun q E x L W P => P pins s1 σ u _ I1 ru ⟨_, _, e1, _, _, _, q, E, x1.trans x, k1, L, W⟩
  cases rv with
  | val d =>
    obtain ⟨ds, es, q1⟩ := q1
    obtain ⟨J, P, W⟩ := walk_rep (B := B) (tg := tg) g E1.gh r1 es
    exact fin q1 E1 (Ext.refl _ _) .no W P
  | fr d =>
    cases d <;> try exact False.elim q1
    rename_i ds
    obtain ⟨G2, x2, E2, r2⟩ := RepR.hold E1 r1
    obtain ⟨J, P, W⟩ := walk_rep (B := B) (tg := tg) (d := .lst ds) g E2.gh r2 rfl
    exact fin q1 E2 x2 .no W P
  | slot i =>
    unfold itR at q1
    simp only at q1
    split at q1
    · rename_i ds ei
      obtain ⟨a, o, m1, m2, m3, m4, vs, rfl, rr⟩ := E1.own i _ ei
      have k0 := r1.1
      rw [m1] at k0
      have ev : V.ref a = v := Option.some.inj (Option.some.inj k0)
      subst ev
      refine fin q1 E1 (Ext.refl _ _) (.yes ei m1 m2 m3 m4 ⟨vs, rfl, rr⟩) ?_ (piv_list (xs := vs) (.inl (.inl m4)))
      exact walks_list g.K rr fun H' s _ _ _ => .inl (.inl (s _ _ upd_same))
    · rename_i ds ei
      obtain ⟨v', m1, a, vs, rfl, hq, rr⟩ := E1.bor i _ ei
      have k0 := r1.1
      rw [m1] at k0
      have ev : V.ref a = v := Option.some.inj (Option.some.inj k0)
      subst ev
      exact fin q1 E1 (Ext.refl _ _) .no (walks_list g.K rr fun H' s _ _ _ => s.seq hq) (piv_list (xs := vs) (by rw [g.K]; exact E1.bh.seq hq))
    · rename_i d ei
      obtain ⟨ds, es, q1⟩ := q1
      obtain ⟨v', m1, rr⟩ := E1.val i _ ei
      have k0 := r1.1
      rw [m1] at k0
      have ev : v' = v := Option.some.inj (Option.some.inj k0)
      subst ev
      obtain ⟨J, P, W⟩ := walk_rep (B := B) (tg := tg) g E1.gh rr es
      exact fin q1 E1 (Ext.refl _ _) .no W P
    · exact q1.elim
/-! range -/
def rgD (lo : Int) (n : Nat) : List D := (List.range n).map fun i => .int (lo + (i : Nat))
def iRg1 (ta : AT) : IT := fun env Q Xq => ta env (fun rs e1 => ∃ j, rs = [.val (.int j)] ∧ -(2 ^ 62) ≤ j ∧ j < 2 ^ 62 ∧ Q (rgD 0 j.toNat) none e1) Xq
def iRg2 (ta : AT) : IT := fun env Q Xq => ta env (fun rs e1 => ∃ i j, rs = [.val (.int i), .val (.int j)] ∧ (-(2 ^ 62) ≤ i ∧ i < 2 ^ 62 ∧ -(2 ^ 62) ≤ j ∧ j < 2 ^ 62) ∧ Q (rgD i (j - i).toNat) none e1) Xq
theorem walks_rg {lo : Int} {n : Nat} : Walks c G B (Itr lo n) (rgD lo n) := by
  refine ⟨fun i d G' H' e s1 s2 s3 => ?_, fun G' H' s1 s2 s3 => ?_⟩
  · unfold rgD at e
    rw [List.getElem?_map] at e
    cases q : (List.range n)[i]? with
    | none => rw [q] at e; cases e
    | some k =>
      rw [q] at e
      cases e
      obtain ⟨h1, h2⟩ := List.getElem?_eq_some_iff.mp q
      rw [List.length_range] at h1
      rw [List.getElem_range] at h2
      subst h2
      refine ⟨h1, fun x H'' y => ?_⟩
      obtain ⟨e1, rfl⟩ := y
      subst e1
      exact ⟨G', Res.refl s1, .int _⟩
  · show n ≤ (rgD lo n).length
    simp [rgD]
theorem vi_rg1 {tg a : Expr} {ta : AT} {p pos : Pos} (b : BltC c "range" (.type "range")) (ha : VA c [a] ta) (hn : noStar a = true := by rfl) : VI c tg (.Call (.Name "range" p) [a] [] pos) (iRg1 ta) := by
  constructor
  intro X g G B H σ env Q Xq E q tk pins s I
  refine (pi_range1 (tg := tg) (p := p) (pos := pos) (b.gl.gl g) (by rw [g.mg]; exact b.mg) (pa_tu (es := [a])) (star_cons hn)).run pins s σ H _ I ?_
  refine (ha.run X g G B H σ env _ Xq E q tk).imp fun vs H1 ⟨rs, e1, G1, ⟨j, er, h1, h2, q1⟩, E1, x1, k1, r1⟩ => ?_
  subst er
  cases r1 with
  | cons h r =>
  cases r
  cases (show Rep c.K c.w G1 _ (.int j) from h)
  exact ⟨j, rfl, h1, h2, _, none, e1, e1, G1, B, q1, E1, x1, k1, .no, walks_rg⟩
theorem vi_rg2 {tg a b' : Expr} {ta : AT} {p pos : Pos} (b : BltC c "range" (.type "range")) (ha : VA c [a, b'] ta) (hn : noStar a = true := by rfl) (hn2 : noStar b' = true := by rfl) : VI c tg (.Call (.Name "range" p) [a, b'] [] pos) (iRg2 ta) := by
  constructor
  intro X g G B H σ env Q Xq E q tk pins s I
  refine (pi_range2 (tg := tg) (p := p) (pos := pos) (b.gl.gl g) (by rw [g.mg]; exact b.mg) (pa_tu (es := [a, b'])) (by rw [star_cons hn, star_cons hn2]; rfl) (star_cons hn2)).run pins s σ H _ I ?_
  refine (ha.run X g G B H σ env _ Xq E q tk).imp fun vs H1 ⟨rs, e1, G1, ⟨i, j, er, h1, q1⟩, E1, x1, k1, r1⟩ => ?_
  subst er
  cases r1 with
  | cons h r =>
  cases r with
  | cons h' r =>
  cases r
  cases (show Rep c.K c.w G1 _ (.int i) from h)
  cases (show Rep c.K c.w G1 _ (.int j) from h')
  exact ⟨i, j, rfl, h1, _, none, e1, e1, G1, B, q1, E1, x1, k1, .no, walks_rg⟩
end

/-! ### defs -/
abbrev FSp := List D → (RV → Prop) → (XD → Prop) → Prop
/-- how arguments are handed in: lent to be read (true), or shared -/
inductive ArgsR (K : PySem.W.Frag) (w : World) (G H : Hp) : List Bool → List V → List D → Prop
  | nil : ArgsR K w G H [] [] []
  | bor {ms : List Bool} {v : V} {vs : List V} {d : D} {ds : List D} : RD K w H G v d → ArgsR K w G H ms vs ds → ArgsR K w G H (true :: ms) (v :: vs) (d :: ds)
  | val {ms : List Bool} {v : V} {vs : List V} {d : D} {ds : List D} : Rep K w G v d → ArgsR K w G H ms vs ds → ArgsR K w G H (false :: ms) (v :: vs) (d :: ds)
theorem ArgsR.mono {K : PySem.W.Frag} {w : World} {G G' H : Hp} (s : Same G G') : ∀ {ms : List Bool} {vs : List V} {ds : List D}, ArgsR K w G H ms vs ds → ArgsR K w G' H ms vs ds
  | _, _, _, .nil => .nil
  | _, _, _, .bor h r => .bor (h.mono (Same.refl _) s) (ArgsR.mono s r)
  | _, _, _, .val h r => .val (h.mono s) (ArgsR.mono s r)
def XFin (c : Cfg) (G H : Hp) (Xp : XD → Prop) (E : XK) : Prop := ∀ x cls dx G' H', Xp x → Res G H G' H' → RepX c G' H' cls dx x → E cls dx H'
def spV (c : Cfg) (ms : List Bool) (F : FSp) : Sp := fun vs H Q E => ∃ G ds P Xp, Same G H ∧ ArgsR c.K c.w G H ms vs ds ∧ F ds P Xp ∧ Fin c G H P Q ∧ XFin c G H Xp E
structure FnC (c : Cfg) (x : Str) (ms : List Bool) (F : FSp) : Prop where
  ex : ∃ f fd ps, FnOk c.P c.w c.K c.mg c.base (cxC c) c.k f fd ps (spV c ms F) ∧ c.mg x = some (.ref f) ∧ PySem.W.keepIn c.K (.ref f) = true ∧ Binds c.K fd ps []
def argsE : List Bool → Env → List RV → Option (List D × Env)
  | [], env, [] => some ([], env)
  | true :: ms, env, r :: rs => match rd env r with
    | some d => match argsE ms env rs with
      | some (ds, e) => some (d :: ds, e)
      | none => none
    | none => none
  | false :: ms, env, r :: rs => match fz env r with
    | some (d, e1) => match argsE ms e1 rs with
      | some (ds, e) => some (d :: ds, e)
      | none => none
    | none => none
  | _, _, _ => none
def eCall (ms : List Bool) (F : FSp) (ta : AT) : ET := fun env Q Xq => ta env (fun rs e1 => ∃ ds e2, argsE ms e1 rs = some (ds, e2) ∧ F ds (fun r => Q r e2) (fun x => Xq x e2)) Xq
section
variable {c : Cfg} {pos p : Pos}
theorem RepEnv.args {B H : Hp} {σ : St} : ∀ {ms : List Bool} {G : Hp} {vs : List V} {rs : List RV} {env : Env} {ds : List D} {env' : Env}, RepEnv c G B H σ env → RepHs c G σ vs rs → argsE ms env rs = some (ds, env') →
    ∃ G', Ext B G G' ∧ RepEnv c G' B H σ env' ∧ ArgsR c.K c.w G' H ms vs ds ∧ Keeps env env'
  | [], G, _, _, _, _, _, E, .nil, e => by
    cases e
    exact ⟨G, Ext.refl _ _, E, .nil, Keeps.refl _⟩
  | [], G, _, _, _, _, _, E, .cons _ _, e => by cases e
  | true :: ms, G, _, _, _, _, _, E, .nil, e => by cases e
  | false :: ms, G, _, _, _, _, _, E, .nil, e => by cases e
  | true :: ms, G, _, _, _, _, _, E, .cons h r, e => by
    unfold argsE at e
    split at e
    · rename_i d q1
      split at e
      · rename_i ds e2 q2
        cases e
        obtain ⟨G2, x2, E2, r2, k2⟩ := RepEnv.args E r q2
        exact ⟨G2, x2, E2, .bor ((E.rdH h q1).mono (Same.refl _) x2.1) r2, k2⟩
      · cases e
    · cases e
  | false :: ms, G, _, _, _, _, _, E, .cons h r, e => by
    unfold argsE at e
    split at e
    · rename_i d e1 q1
      split at e
      · rename_i ds e2 q2
        cases e
        obtain ⟨G1, x1, E1, r1, k1⟩ := RepR.fz (B := B) (H := H) E (h.repR q1) q1
        obtain ⟨G2, x2, E2, r2, k2⟩ := RepEnv.args E1 (r.mono x1.1) q2
        exact ⟨G2, x1.trans x2, E2, .val (r1.mono x2.1) r2, k1.trans k2⟩
      · cases e
    · cases e
theorem ve_call {x : Str} {ms : List Bool} {F : FSp} {e : Expr} {es : List Expr} {ta : AT} (f : FnC c x ms F) (hg : GlC c x) (ha : VA c (e :: es) ta) (hdb : (x == ("__debug__" : Str)) = false := by decide) (hn : (e :: es).all noStar = true := by rfl) (hc : c.calm = true := by rfl) : VE c (.Call (.Name x p) (e :: es) [] pos) (eCall ms F ta) := by
  constructor
  intro X g G B H σ env Q Xq E q tk
  obtain ⟨fa, fd, ps, h, hm, hk, hb⟩ := f.ex
  have hn2 : noStar e = true ∧ es.all noStar = true := by
    rw [List.all_cons, Bool.and_eq_true] at hn
    exact hn
  rw [← g.prog, ← g.w, ← g.K, ← g.mg, ← g.base] at h
  refine TU.of (pe_callS (E := WE (WXo c G B σ env Xq)) (sp := spV c ms F) h (g.room hc) (hg.gl g) (by rw [g.mg]; exact hm) (by rw [g.K]; exact hk) (by rw [g.K]; exact hb) (fun σ' => passC g tk σ') (pa_tu (es := e :: es)) hdb (star_cons hn2.1) (noStars hn2.2)) ?_
  refine (ha.run X g G B H σ env _ Xq E q tk).imp fun vs H1 ⟨rs, e1, G1, ⟨ds, e2, q1, qF⟩, E1, x1, k1, r1⟩ => ?_
  obtain ⟨G2, x2, E2, r2, k2⟩ := E1.args r1 q1
  refine ⟨G2, ds, _, _, E2.gh, r2, qF, fun rv v G' H' pq res rr => ?_, fun x cls dx G' H' pq res rx => ?_⟩
  · exact ⟨rv, e2, G', pq, E2.go res, (x1.trans x2).trans (res.ext E2.bh), k1.trans k2, E2.goR res rr⟩
  · exact ⟨x, e2, G', pq, E2.go res, (x1.trans x2).trans (res.ext E2.bh), (k1.trans k2).bors σ, rx⟩
/-- the value that is handed back -/
def retV (env : Env) : RV → Option RV
  | .val d => some (.val d)
  | .fr d => some (.fr d)
  | .slot i => match env[i]? with
    | some (.own d) => some (.fr d)
    | some (.val d) => some (.val d)
    | _ => none
def bodyE (P : RV → Prop) (Xp : XD → Prop) : EndsD := { nx := fun _ => P (.val .non), rt := fun rv env => ∃ r, retV env rv = some r ∧ P r, bk := fun _ => False, ct := fun _ => False, xq := fun x _ => Xp x }
def argS : List Bool → List D → Env
  | true :: ms, d :: ds => .bor d :: argS ms ds
  | false :: ms, d :: ds => .val d :: argS ms ds
  | _, _ => []
def startE (ms : List Bool) (ds : List D) (n : Nat) : Env := argS ms ds ++ List.replicate (n - ds.length) .emp
theorem ArgsR.len {G H : Hp} : ∀ {ms : List Bool} {vs : List V} {ds : List D}, ArgsR c.K c.w G H ms vs ds → vs.length = ds.length ∧ (argS ms ds).length = ds.length ∧ ms.length = ds.length
  | _, _, _, .nil => ⟨rfl, rfl, rfl⟩
  | _, _, _, .bor h r => by
    have := ArgsR.len r
    simp only [List.length_cons, argS]
    omega
  | _, _, _, .val h r => by
    have := ArgsR.len r
    simp only [List.length_cons, argS]
    omega
theorem ArgsR.get {G H : Hp} : ∀ {ms : List Bool} {vs : List V} {ds : List D} {i : Nat} {s : Slot}, ArgsR c.K c.w G H ms vs ds → (argS ms ds)[i]? = some s →
    ∃ v d, vs[i]? = some v ∧ ((s = .bor d ∧ RD c.K c.w H G v d) ∨ (s = .val d ∧ Rep c.K c.w G v d))
  | _, _, _, _, _, .nil, e => by simp [argS] at e
  | _, _, _, 0, _, .bor h r, e => by
    simp [argS] at e
    exact ⟨_, _, rfl, .inl ⟨e.symm, h⟩⟩
  | _, _, _, 0, _, .val h r, e => by
    simp [argS] at e
    exact ⟨_, _, rfl, .inr ⟨e.symm, h⟩⟩
  | _, _, _, i + 1, _, .bor h r, e => by
    simp [argS] at e
    obtain ⟨v, d, h1, h2⟩ := ArgsR.get r e
    exact ⟨v, d, by simpa using h1, h2⟩
  | _, _, _, i + 1, _, .val h r, e => by
    simp [argS] at e
    obtain ⟨v, d, h1, h2⟩ := ArgsR.get r e
    exact ⟨v, d, by simpa using h1, h2⟩
theorem start_env {G H : Hp} {ms : List Bool} {vs : List V} {ds : List D} {N : List Str} (s : Same G H) (r : ArgsR c.K c.w G H ms vs ds) (hl : vs.length ≤ N.length) : RepEnv c G H H (L2.start N vs) (startE ms ds N.length) := by
  obtain ⟨l1, l2, _⟩ := r.len
  have all : ∀ {i : Nat} {u : Slot}, (startE ms ds N.length)[i]? = some u → u = .emp ∨ ∃ v d, (L2.start N vs)[i]? = some (some v) ∧ ((u = .bor d ∧ RD c.K c.w H G v d) ∨ (u = .val d ∧ Rep c.K c.w G v d)) := fun {i u} e => by
    unfold startE at e
    by_cases hi : i < (argS ms ds).length
    · rw [List.getElem?_append_left hi] at e
      obtain ⟨v, d, h1, h2⟩ := r.get e
      refine .inr ⟨v, d, ?_, h2⟩
      unfold L2.start
      rw [List.getElem?_append_left (by simp; omega), List.getElem?_map, h1]
      rfl
    · rw [List.getElem?_append_right (by omega), List.getElem?_replicate] at e
      split at e
      · exact .inl (Option.some.inj e).symm
      · cases e
  refine ⟨s, Same.refl _, ?_, fun i d e => ?_, fun i d e => ?_, fun i d e => ?_, fun i j d d' a e => ?_⟩
  · unfold L2.start startE
    simp only [List.length_append, List.length_map, List.length_replicate]
    omega
  · rcases all e with z | ⟨v, d', h1, ⟨z, _⟩ | ⟨z, h2⟩⟩
    · cases z
    · cases z
    · cases z
      exact ⟨v, h1, h2⟩
  · rcases all e with z | ⟨v, d', h1, ⟨z, _⟩ | ⟨z, h2⟩⟩
    · cases z
    · cases z
    · cases z
  · rcases all e with z | ⟨v, d', h1, ⟨z, h2⟩ | ⟨z, _⟩⟩
    · cases z
    · cases z
      exact ⟨v, h1, h2⟩
    · cases z
  · rcases all e with z | ⟨v, d', h1, ⟨z, h2⟩ | ⟨z, _⟩⟩
    · cases z
    · cases z
    · cases z
/-- within a def -/
def Cfg.inn (c : Cfg) (k : Nat) (N : List Str) (sc : Scope) : Cfg := { c with k := k, N := N, scope := sc, fn := fun _ => true, top := true, calm := true }
def Cfg.lv (c : Cfg) (k : Nat) : Cfg := { c with k := k }
/-- a def by its body, with any contract about errors -/
theorem fun_okG {CX : CXT} {P : Program} {w : World} {K : PySem.W.Frag} {mg : Str → Option Value} {base : Heap} {x qual : Str} {st : Stmt} {f : Addr} {fd : FuncData} {N ps : List Str} {k : Nat} {sp : Sp}
    (F : Fun K x qual st f fd) (S : FnScope N ps (defScope st)) (hl : ∀ vs H Q E, sp vs H Q E → vs.length = ps.length)
    (hb : ∀ cdv A outer (s : Shared) H vs Q E, Room k (A.deeper (PyProof.Rows.envOfC qual (defScope st) s.heap.objs.size f cdv)) → sp vs H Q E →
      ∃ t, PSs (cxOf CX P w K mg base N qual (defScope st) f cdv A outer s H E) (defBody st) t ∧ t { nx := fun _ H' => Q .non H', rt := Q } (L2.start N vs) H) : FnOk P w K mg base CX (k + 1) f fd ps sp := by
  obtain ⟨_, _, _, _, _, _, _, _, _, rfl, l, c⟩ := F.ex
  exact fn_of l c S hl fun A outer s H vs Q E => hb _ A outer s H vs Q E
/-- THE RULE for a def -/
theorem fn_ok {x qual : Str} {st : Stmt} {f : Addr} {fd : FuncData} {N ps : List Str} {k : Nat} {ms : List Bool} {F : FSp} {t : STt} (Fu : Fun c.K x qual st f fd) (S : FnScope N ps (defScope st)) (hl : ms.length = ps.length)
    (hb : VSs (c.inn k N (defScope st)) (defBody st) t) (hF : ∀ ds P Xp, ds.length = ms.length → F ds P Xp → t (bodyE P Xp) (startE ms ds N.length)) : FnOk c.P c.w c.K c.mg c.base (cxC c) (k + 1) f fd ps (spV c ms F) := by
  refine fun_okG (CX := cxC c) Fu S (fun vs H Q E h => ?_) (fun cdv A outer s H vs Q E hr h => ?_)
  · obtain ⟨G, ds, P, Xp, _, r, _⟩ := h
    have := r.len
    omega
  · obtain ⟨G, ds, P, Xp, sg, r, q, fin, xfin⟩ := h
    obtain ⟨l1, l2, l3⟩ := r.len
    have hpl : ps.length ≤ N.length := by have := congrArg List.length S.pre; rw [List.length_take] at this; omega
    have E0 := start_env (N := N) sg r (by omega)
    have E0' : RepEnv (c.inn k N (defScope st)) G H H (L2.start N vs) (startE ms ds N.length) := ⟨E0.gh, E0.bh, E0.len, E0.val, E0.own, E0.bor, E0.dis⟩
    refine ⟨TUss _ (defBody st), pss_tu, ?_⟩
    have g : Good (c.inn k N (defScope st)) (cxOf (cxC c) c.P c.w c.K c.mg c.base N qual (defScope st) f cdv A outer s H E) := ⟨rfl, rfl, rfl, rfl, rfl, rfl, S.nd, rfl, rfl, L2H.roomH_of hr, (fun _ => ⟨rfl, hr.hd⟩), passes_of rfl, fun _ => ⟨rfl, rfl, rfl⟩⟩
    have res : ∀ {G' H' : Hp} {σ' : St} {env' : Env}, RepEnv (c.inn k N (defScope st)) G' H H' σ' env' → Ext H G G' → Res G H G' H' := fun E' x' => ⟨E'.bh, x'.1, E'.gh, x'.2⟩
    have tk : TakesC (c.inn k N (defScope st)) (cxOf (cxC c) c.P c.w c.K c.mg c.base N qual (defScope st) f cdv A outer s H E) (WXo (c.inn k N (defScope st)) G H (L2.start N vs) (startE ms ds N.length) (bodyE P Xp).xq) :=
      (takesC_of (c := c) (E := E) rfl rfl rfl rfl rfl rfl).imp fun cls d σ' H' ⟨xd, env', G', q', E', x', b', r'⟩ => xfin xd cls d G' H' q' (res E' x') r'
    refine TUss.imp ?_ (hb.run _ g G H H (L2.start N vs) (startE ms ds N.length) (bodyE P Xp) E0' (hF ds P Xp (by omega) q) tk)
    refine ⟨fun σ' H' ⟨env', G', q', E', x', b'⟩ => fin _ .non G' H' q' (res E' x') .non, fun v H' ⟨rv, env', G', σ', ⟨rr, q', p'⟩, E', x', b', r'⟩ => ?_, fun σ' H' ⟨env', G', q', _⟩ => q'.elim, fun σ' H' ⟨env', G', q', _⟩ => q'.elim⟩
    have R := res E' x'
    cases rv with
    | val d =>
      cases q'
      exact fin _ v G' H' p' R r'
    | fr d =>
      cases q'
      obtain ⟨a, o, rfl, h1, h2, h3, h4, h5⟩ := r'
      exact fin _ _ G' H' p' R ⟨a, o, rfl, h2, h1, h3, h4⟩
    | slot i =>
      unfold retV at q'
      simp only at q'
      split at q'
      · rename_i d ei
        cases q'
        obtain ⟨a, o, m1, m2, m3, m4, m5⟩ := E'.own i _ ei
        have k0 := r'.1
        rw [m1] at k0
        have ev : V.ref a = v := Option.some.inj (Option.some.inj k0)
        subst ev
        exact fin _ _ G' H' p' R ⟨a, o, rfl, m3, m2, m4, m5⟩
      · rename_i d ei
        cases q'
        obtain ⟨v', m1, m2⟩ := E'.val i _ ei
        have k0 := r'.1
        rw [m1] at k0
        have ev : v' = v := Option.some.inj (Option.some.inj k0)
        subst ev
        exact fin _ _ G' H' p' R m2
      · cases q'
theorem FnC.of {x : Str} {f : Addr} {fd : FuncData} {ps : List Str} {j k : Nat} {ms : List Bool} {F : FSp} (h : FnOk c.P c.w c.K c.mg c.base (cxC c) j f fd ps (spV c ms F)) (hm : c.mg x = some (.ref f)) (hk : PySem.W.keepIn c.K (.ref f) = true) (hb : Binds c.K fd ps []) (l : j ≤ k) (N : List Str) (sc : Scope) :
    FnC (c.inn k N sc) x ms F := ⟨⟨f, fd, ps, h.mono l, hm, hk, hb⟩⟩
/-! ### a law -/
def spLaw (K : PySem.W.Frag) : Sp := fun vs H Q _ => ∃ (a : Addr) (ns : List Int), vs = [.ref a] ∧ SqL K H a (ns.map V.int) ∧ ns.length ≤ 63 ∧ ∀ H', Q (.bl true) H'
def FLaw : FSp := fun ds P _ => ∃ ns : List Int, ds = [.lst (ns.map D.int)] ∧ ns.length ≤ 63 ∧ P (.val (.bl true))
theorem repL_ints {K : PySem.W.Frag} {w : World} {G : Hp} : ∀ ns : List Int, RepL K w G (ns.map V.int) (ns.map D.int)
  | [] => .nil
  | n :: ns => .cons (.int n) (repL_ints ns)
theorem law_ok {f : Addr} {fd : FuncData} {k : Nat} {x : Str} (h : FnOk c.P c.w c.K c.mg c.base (cxC c) k f fd [x] (spV c [true] FLaw)) (hn : c.nc = false := by rfl) : FnOk c.P c.w c.K c.mg c.base (L2.CX c.P c.w) k f fd [x] (spLaw c.K) := by
  rw [cxC_f hn] at h
  exact h.imp fun vs H Q E ⟨a, ns, e, hs, hl, q⟩ => ⟨fun _ => none, [.lst (ns.map D.int)], fun r => r = .val (.bl true), fun _ => False, fun b o z => absurd (show (none : Option HO) = some o from z) (by simp), by
    subst e
    exact .bor ⟨a, _, rfl, hs, repL_ints ns⟩ .nil, ⟨ns, rfl, hl, rfl⟩, fun rv v G' H' p res r => by
    subst p
    cases r
    exact q H', fun x cls dx G' H' p => p.elim⟩
end
end VS

namespace VS
open PySem PySem.Spec L2

/-! ### short ways to a name's facts, by the kernel -/
def visB (N : List Str) (sc : Scope) (i : Nat) (x : Str) : Bool := decide (N[i]? = some x) && (match sc.names.lookup x with | some .local => true | some .cell => true | some .free => true | _ => false) && (x == ("__debug__" : Str)) == false && (x == ("__classdict__" : Str)) == false
def stoB (N : List Str) (sc : Scope) (fn : Str → Bool) (i : Nat) (x : Str) : Bool := decide (N[i]? = some x) && (match sc.names.lookup x with | some .local => true | some .cell => fn x | _ => false)
def glB (sc : Scope) (x : Str) : Bool := match sc.names.lookup x with | some .globalImplicit => true | _ => false
theorem visC_of {c : Cfg} {i : Nat} {x : Str} (h : visB c.N c.scope i x = true) : VisC c i x := by
  unfold visB at h
  simp only [Bool.and_eq_true, decide_eq_true_eq, beq_iff_eq] at h
  obtain ⟨⟨⟨h1, h2⟩, h3⟩, h4⟩ := h
  refine ⟨h1, ?_, h3, h4⟩
  unfold Vis
  split at h2 <;> first | exact .inl (by assumption) | exact .inr (.inl (by assumption)) | exact .inr (.inr (by assumption)) | cases h2
theorem stoC_of {c : Cfg} {i : Nat} {x : Str} (h : stoB c.N c.scope c.fn i x = true) : StoC c i x := by
  unfold stoB at h
  simp only [Bool.and_eq_true, decide_eq_true_eq] at h
  obtain ⟨h1, h2⟩ := h
  refine ⟨h1, ?_⟩
  unfold L2.Loc
  split at h2
  · rename_i q; exact ⟨.inl q, .inr q⟩
  · rename_i q; exact ⟨.inr q, .inl h2⟩
  · cases h2
theorem glC_of {c : Cfg} {x : Str} (h : glB c.scope x = true) : GlC c x := by
  unfold glB at h
  split at h
  · rename_i q; exact q
  · cases h

section
variable {c : Cfg}
/-! ### len -/
def opLen : List D → (RV → Prop) → Prop
  | [.str x], Q => x.length ≤ sizeLine ∧ Q (.val (.int x.length))
  | [.lst xs], Q => Q (.val (.int xs.length))
  | [.tup xs], Q => Q (.val (.int xs.length))
  | [.ktup xs], Q => Q (.val (.int xs.length))
  | [.dic _ xs], Q => Q (.val (.int xs.length))
  | _, _ => False
def rLenA (K : PySem.W.Frag) : List V → Hp → VK → Prop := fun xs H Q => (∃ x n, xs = [x] ∧ LenV K x H n ∧ Q (.int n) H) ∨ ∃ a n, xs = [V.ref a] ∧ ((∃ kvs, Rd H a (.dK kvs) ∧ n = kvs.length) ∨ ∃ kvs, Rd H a (.dT kvs) ∧ n = kvs.length) ∧ Q (.int (n : Nat)) H
theorem call_lenDD {X : Cx} : CallR X (.builtin "len") (fun xs H Q => ∃ a n, xs = [V.ref a] ∧ ((∃ kvs, Rd H a (.dK kvs) ∧ n = kvs.length) ∨ ∃ kvs, Rd H a (.dT kvs) ∧ n = kvs.length) ∧ Q (.int (n : Nat)) H) := by
  intro pins s σ H xs us Q I r h
  obtain ⟨a, n, rfl, hd, q⟩ := h
  obtain ⟨u, rfl, ru⟩ := vals1 r
  cases ru
  rcases hd with ⟨kvs, ha, rfl⟩ | ⟨kvs, ha, rfl⟩
  · exact d_len I ha fun t s' I' => ⟨.int kvs.length, H, I', ⟨t, rfl⟩, q⟩
  · obtain ⟨z, hd, xs, rel, dd⟩ := dt_rd I.hok ha
    have hl : kvs.length = xs.length := Paired.length rel
    refine call_len_dictH hd dd (by rw [← hl]; rw [sizeLine_eq] at z; omega) ?_
    rw [← hl]
    exact ⟨.int ((kvs.length : Nat) : Int), H, I.tok _, ⟨_, rfl⟩, q⟩
theorem len_s : OpSn c (rLenA c.K) opLen := by
  intro G H xs ds P K s r o f
  unfold opLen at o
  split at o
  · cases r with
    | cons h r =>
    cases r
    cases h
    exact .inl ⟨_, _, rfl, ⟨o.1, rfl⟩, f.val s o.2 (.int _)⟩
  · cases r with
    | cons h r =>
    cases r
    obtain ⟨a, vs, rfl, hq, rr⟩ := h
    exact .inl ⟨_, vs.length, rfl, .inl ⟨vs, hq, rfl⟩, f.val s (by rw [rr.length]; exact o) (.int _)⟩
  · cases r with
    | cons h r =>
    cases r
    cases (show Rep c.K c.w G _ _ from h) with
    | @tup a vs _ hq rr => exact .inl ⟨_, vs.length, rfl, .inr ⟨vs, SqT.of (s _ _ hq), rfl⟩, f.val s (by rw [rr.length]; exact o) (.int _)⟩
  · cases r with
    | cons h r =>
    cases r
    cases (show Rep c.K c.w G _ _ from h) with
    | @ktup a vs _ hq rr => exact .inl ⟨_, vs.length, rfl, .inr ⟨vs, .inr hq, rfl⟩, f.val s (by rw [rr.length]; exact o) (.int _)⟩
  · cases r with
    | cons h r =>
    cases r
    rename_i t kvs _
    cases t with
    | false =>
      obtain ⟨a, vs, rfl, hq, rr⟩ := h
      exact .inr ⟨a, vs.length, rfl, .inl ⟨vs, hq, rfl⟩, f.val s (by rw [rr.length]; exact o) (.int _)⟩
    | true =>
      obtain ⟨a, vs, rfl, hq, rr⟩ := h
      exact .inr ⟨a, vs.length, rfl, .inr ⟨vs, hq, rfl⟩, f.val s (by rw [rr.length]; exact o) (.int _)⟩
  · exact o.elim
theorem r_len {X : Cx} (g : Good c X) : CallR X (.builtin "len") (rLenA c.K) := by
  rw [← g.K]
  exact call_len.or call_lenDD
def opMin2 : List D → (RV → Prop) → Prop
  | [.int i, .int j], Q => Q (.val (.int (if j < i then j else i)))
  | _, _ => False
def opMax2 : List D → (RV → Prop) → Prop
  | [.int i, .int j], Q => Q (.val (.int (if j > i then j else i)))
  | _, _ => False
theorem min2_s : OpSn c (fun xs H Q => ∃ i j, xs = [.int i, .int j] ∧ Q (.int (if j < i then j else i)) H) opMin2 := by
  intro G H xs ds P K s r o f
  unfold opMin2 at o
  split at o
  · cases r with
    | cons h r =>
    cases r with
    | cons h' r =>
    cases r
    cases h
    cases h'
    exact ⟨_, _, rfl, f.val s o (.int _)⟩
  · exact o.elim
/-! ### isinstance -/
def tyN : D → String
  | .non => "NoneType"
  | .bl _ => "bool"
  | .int _ => "int"
  | .str _ => "str"
  | .ty _ => "type"
  | .tup _ => "tuple"
  | .ktup _ => "tuple"
  | .lst _ => "list"
  | .dic _ _ => "dict"
  | .kdic _ => "dict"
  | .exc _ _ => ""
  | .dix _ => "dict"
  | .ins _ _ => ""
def isi (T : String) : D → Bool
  | .ty _ => false
  | .bl _ => T == "bool" || T == "int"
  | d => tyN d == T
def opIsi : List D → (RV → Prop) → Prop
  | [d, .ty T], Q => (T = "int" ∨ T = "bool" ∨ T = "str" ∨ T = "tuple" ∨ T = "list" ∨ T = "dict") ∧ (match d with | .ty _ => False | .kdic _ => False | .exc _ _ => False | .ins _ _ => False | _ => True) ∧ Q (.val (.bl (isi T d)))
  | _, _ => False
def rIsiD (K : PySem.W.Frag) : List V → Hp → VK → Prop := fun xs H Q => ∃ (x : V) (T t : String) (b : Bool), xs = [x, .ty T] ∧ (TyX K H x (.type t) ∨ (t = "dict" ∧ ∃ a kvs, x = .ref a ∧ Rd H a (.dT kvs)) ∨ (t = "dict" ∧ ∃ w a a' kvs, x = .ref a ∧ Rd H a (dxO w a' kvs))) ∧ kitB t T = some b ∧ Q (.bl b) H
theorem call_isiD {X : Cx} : CallR X (.builtin "isinstance") (rIsiD X.K) := by
  intro pins s σ H xs us Q I r h
  obtain ⟨x, T, t, b, rfl, ty, e, q⟩ := h
  rcases ty with ty | ⟨rfl, a, kvs, rfl, hd⟩ | ⟨rfl, w, a, a', kvs, rfl, hd⟩
  · exact call_isi pins s σ H _ us Q I r ⟨x, .ty T, .type t, .type T, b, rfl, .ty T, ty, e, q⟩
  · obtain ⟨u1, u2, rfl, r1, r2⟩ := vals2 r
    obtain rfl : u1 = Value.ref a := r1
    obtain rfl : u2 = Value.type T := r2
    obtain ⟨_, _, xs, _, o, es, ep, h1, h2, _⟩ := dt_rd I.hok hd
    exact PySem.W.kia_one PySem.W.kitx_dict I.kIn ⟨o, h1, h2.1⟩ (kit_ty (K := X.K) e) (fun z => nomatch z) fun tk => ⟨.bl b, H, I.tok tk, rfl, q⟩
  · obtain ⟨u1, u2, rfl, r1, r2⟩ := vals2 r
    obtain rfl : u1 = Value.ref a := r1
    obtain rfl : u2 = Value.type T := r2
    obtain ⟨_, _, _, xs, _, o, es, ep, h1, h2, _⟩ := dx_rd I.hok hd
    exact PySem.W.kia_one PySem.W.kitx_dict I.kIn ⟨o, h1, h2.1⟩ (kit_ty (K := X.K) e) (fun z => nomatch z) fun tk => ⟨.bl b, H, I.tok tk, rfl, q⟩
theorem kit_all : (["NoneType", "bool", "int", "str", "tuple", "list", "dict"].all fun t => ["int", "bool", "str", "tuple", "list", "dict"].all fun T => decide (kitB t T = some ((t == T) || (t == "bool" && T == "int")))) = true := by decide +kernel
theorem kit_one {t T : String} (ht : t ∈ ["NoneType", "bool", "int", "str", "tuple", "list", "dict"]) (hT : T ∈ ["int", "bool", "str", "tuple", "list", "dict"]) : kitB t T = some ((t == T) || (t == "bool" && T == "int")) := by
  have h := List.all_eq_true.mp kit_all t ht
  exact of_decide_eq_true (List.all_eq_true.mp h T hT)
theorem isi_s : OpSn c (rIsiD c.K) opIsi := by
  intro G H xs ds P K s r o f
  unfold opIsi at o
  split at o
  · rename_i d T
    obtain ⟨hT, hd, p⟩ := o
    have hT' : T ∈ ["int", "bool", "str", "tuple", "list", "dict"] := by
      rcases hT with h | h | h | h | h | h <;> subst h <;> simp
    cases r with
    | cons h r =>
    cases r with
    | cons h' r =>
    cases r
    cases h'
    rename_i x
    have go : ∀ {t : String} {b : Bool}, t ∈ ["NoneType", "bool", "int", "str", "tuple", "list", "dict"] → ((t == T) || (t == "bool" && T == "int")) = b → (TyX c.K H x (.type t) ∨ (t = "dict" ∧ ∃ a kvs, x = .ref a ∧ Rd H a (.dT kvs)) ∨ (t = "dict" ∧ ∃ w a a' kvs, x = .ref a ∧ Rd H a (dxO w a' kvs))) → P (.val (.bl b)) → rIsiD c.K [x, .ty T] H K :=
      fun ht hb ty p => ⟨x, T, _, _, rfl, ty, by rw [kit_one ht hT', hb], f.val s p (.bl _)⟩
    have seqL : ∀ {a : Addr} {vs : List V}, SqL c.K H a vs → TyX c.K H (.ref a) (.type "list") := fun hq => by
      rcases hq with (hq | ⟨o, hq⟩) | ⟨o, its, n, h1, h2, _⟩
      · exact .base (.lst hq)
      · exact .base (.frz hq)
      · exact .kList h1 h2
    cases d with
    | non => cases h; exact go (t := "NoneType") (by simp) (by rfl) (.inl (.base .non)) (by simpa [isi, tyN] using p)
    | bl b =>
      cases h
      refine go (t := "bool") (b := isi T (.bl b)) (by simp) ?_ (.inl (.base (.bl _))) p
      simp only [isi]
      rcases hT with h | h | h | h | h | h <;> subst h <;> decide
    | int i => cases h; exact go (t := "int") (by simp) (by simp [isi, tyN]) (.inl (.base (.int _))) p
    | str i => cases h; exact go (t := "str") (by simp) (by simp [isi, tyN]) (.inl (.base (.str _))) p
    | ty _ => exact hd.elim
    | kdic _ => exact hd.elim
    | exc _ _ => exact hd.elim
    | dix _ =>
      obtain ⟨a, a', kvs, rfl, q, _⟩ := h
      exact go (t := "dict") (by simp) (by simp [isi, tyN]) (.inr (.inr ⟨rfl, _, _, _, _, rfl, q⟩)) p
    | ins _ _ => exact hd.elim
    | tup ds =>
      cases (show Rep c.K c.w G _ _ from h) with
      | @tup a vs _ hq rr => exact go (t := "tuple") (by simp) (by simp [isi, tyN]) (.inl (.base (.tup (s _ _ hq)))) p
    | ktup ds =>
      cases (show Rep c.K c.w G _ _ from h) with
      | @ktup a vs _ hq rr =>
        obtain ⟨o, its, n, h1, h2, _⟩ := hq
        exact go (t := "tuple") (by simp) (by simp [isi, tyN]) (.inl (.kTuple h1 h2)) p
    | lst ds =>
      obtain ⟨a, vs, rfl, hq, rr⟩ := h
      exact go (t := "list") (by simp) (by simp [isi, tyN]) (.inl (seqL hq)) p
    | dic t kvs =>
      cases t with
      | false =>
        obtain ⟨a, vs, rfl, hq, rr⟩ := h
        rcases hq with hq | ⟨o, hq⟩
        · exact go (t := "dict") (by simp) (by simp [isi, tyN]) (.inl (.base (.dK hq))) p
        · exact go (t := "dict") (by simp) (by simp [isi, tyN]) (.inl (.fDict hq)) p
      | true =>
        obtain ⟨a, vs, rfl, hq, rr⟩ := h
        exact go (t := "dict") (by simp) (by simp [isi, tyN]) (.inr (.inl ⟨rfl, a, vs, rfl, hq⟩)) p
  · exact o.elim
/-- a built-in type's name as a value -/
theorem ve_type {x : Str} {T : String} {pos : Pos} (b : BltC c x (.type T)) : VE c (.Name x pos) (eC (.ty T)) := ve_of (fun X g => pe_bltn (b.gl.gl g) (by rw [g.mg]; exact b.mg) b.bt (show RelV (.ty T) (.type T) from rfl) b.nn b.nd) (.ty T)

/-! ### methods of built-in types -/
def tyM (T : String) : D → Bool
  | .str _ => T == "str"
  | .lst _ => T == "list"
  | .dic _ _ => T == "dict"
  | _ => false
theorem tyM_is {X : Cx} {pins : List (Addr × Obj)} {σ : St} {G H : Hp} {s : Shared} {T : String} {x : V} {v : Value} {d : D} (g : Good c X) (I : Inv X pins σ H s) (r : RelV x v) (gh : Same G H) (h : RD c.K c.w H G x d) (ht : tyM T d = true) :
    s.TypeIs v T ∧ ∀ a, v = .ref a → ∃ ob, s.heap.get? a = some ob ∧ ob.dict = none := by
  cases d <;> try (cases ht; done)
  · cases h
    obtain rfl : T = "str" := by simpa [tyM] using ht
    obtain ⟨t, rfl⟩ := r
    exact ⟨typeIs_str s _ t, fun _ e => nomatch e⟩
  · obtain rfl : T = "list" := by simpa [tyM] using ht
    obtain ⟨a, vs, rfl, hq, _⟩ := h
    exact tyV_is I r (.inl ⟨rfl, _, by rw [g.K]; exact hq⟩)
  · rename_i t kvs
    obtain rfl : T = "dict" := by simpa [tyM] using ht
    have z : ∃ a, x = .ref a ∧ IsD H a := by
      cases t with
      | false => obtain ⟨a, vs, rfl, hq, _⟩ := h; exact ⟨a, rfl, .inl ⟨vs, hq⟩⟩
      | true => obtain ⟨a, vs, rfl, hq, _⟩ := h; exact ⟨a, rfl, .inr ⟨vs, hq⟩⟩
    obtain ⟨a, rfl, hd⟩ := z
    obtain rfl : v = Value.ref a := r
    obtain ⟨t1, t2, _⟩ := isD_at I hd
    exact ⟨t1, t2⟩
def OpSm (c : Cfg) (r : V → List V → Hp → VK → Prop) (op : D → List D → (RV → Prop) → Prop) : Prop := ∀ (G H : Hp) (x : V) (xs : List V) (d : D) (ds : List D) (P : RV → Prop) (K : VK), Same G H → RD c.K c.w H G x d → Paired (fun x d => RD c.K c.w H G x d) xs ds → op d ds P → Fin c G H P K → r x xs H K
def eMth (T : String) (op : D → List D → (RV → Prop) → Prop) (to : ET) (ta : AT) : ET := fun env Q Xq => to env (fun r e1 => ∃ d0, rd e1 r = some d0 ∧ tyM T d0 = true ∧ ta e1 (fun rs e2 => ∃ d ds, rd e2 r.hold = some d ∧ rds e2 rs = some ds ∧ op d ds fun r => Q r e2) Xq) Xq
def notCall0 : Expr → Bool
  | .Call (.Name _ _) [] [] _ => false
  | _ => true
theorem base_of {o : Expr} {m : Str} {env : PySem.Env} {w : Sem Value} (h : notCall0 o = true) : attributeBase o m env w = w := by
  unfold attributeBase
  split
  · cases h
  · rfl
theorem few_of {e : Expr} {es : List Expr} {cpos : Pos} {env : PySem.Env} (hn : (e :: es).all noStar = true) (h30 : (e :: es).length < 30) : ((backTo cpos (starEach (e :: es) env)).all (fun x => !x.1) && (backToKw cpos (keywordEach [] env)).all (fun x => x.1.isSome)
      && decide ((e :: es).length + ([] : List Keyword).length + (if ([] : List Keyword).isEmpty then 0 else 1) < 30)) = true := by
  have h1 : (backTo cpos (starEach (e :: es) env)).any (·.1) = false := noStars hn
  have h2 : (backTo cpos (starEach (e :: es) env)).all (fun x => !x.1) = true := by
    rw [List.all_eq_true]
    intro x hx
    cases q : x.1 with
    | false => rfl
    | true =>
      have : (backTo cpos (starEach (e :: es) env)).any (·.1) = true := List.any_eq_true.mpr ⟨x, hx, q⟩
      rw [h1] at this
      cases this
  rw [h2]
  simp only [Bool.true_and, Bool.and_eq_true, decide_eq_true_eq]
  exact ⟨rfl, by simpa using h30⟩
theorem ve_mth {T id : String} {name : Str} {o e : Expr} {es : List Expr} {apos cpos : Pos} {to : ET} {ta : AT} {r : V → List V → Hp → VK → Prop} {op : D → List D → (RV → Prop) → Prop} (pa : PlainAttrs T) (slot : PySem.Slot T name id) (hty : typeOf (.builtin id) = pure (.type "method_descriptor"))
    (hm : ∀ X, Good c X → MtR X id r) (hs : OpSm c r op) (ho : VE c o to) (ha : VA c (e :: es) ta) (hb : notCall0 o = true := by rfl) (hn : (e :: es).all noStar = true := by rfl) (h30 : (e :: es).length < 30 := by decide) (hline : (apos.endLine == cpos.line) = true := by rfl) :
    VE c (.Call (.Attribute o name apos) (e :: es) [] cpos) (eMth T op to ta) := by
  constructor
  intro X g G B H σ env Q Xq E q tk pins s I
  have hn2 : noStar e = true ∧ es.all noStar = true := by
    rw [List.all_cons, Bool.and_eq_true] at hn
    exact hn
  refine wpAny_Call_method_late (base_of hb) (few_of hn h30) hline rfl (thn ((ho.run X g G B H σ env _ Xq E q tk) pins s I) fun u s1 ⟨x, H1, I1, ru, rv, e1, G1, ⟨d0, q0, qt, q1⟩, E1, x1, k1, r1⟩ => ?_)
  obtain ⟨h1, h2⟩ := tyM_is g I1 ru E1.gh (E1.rdR r1 q0) qt
  refine ⟨T, id, pa, slot, hty, h1, h2, ?_⟩
  obtain ⟨G2, x2, E2, p2⟩ := r1.hold E1
  have hA := (ha.run X g G2 B H1 σ e1 _ Xq E2 q1 (takes_up tk (x1.trans x2) k1)) cpos pins s1 I1
  rw [star_cons hn2.1] at hA ⊢
  refine Calls.callWith_builtin (by show (false || (backTo cpos (starEach es X.env)).any (·.1)) = false; rw [noStars hn2.2] <;> rfl) (Calls.evalArgs_plain ?_)
  refine thn hA fun us s2 ⟨vs, H2, I2, r2, rs, e2, G3, ⟨d, ds, qd, qs, qo⟩, E3, x3, k3, p3⟩ => ?_
  refine hm X g pins s2 σ H2 x vs u us _ I2 ru r2 (hs G3 H2 x vs d ds _ _ E3.gh (E3.rdH (p2.mono x3.1) qd) (E3.rds p3 qs) qo fun rv v G' H' p res rr => ?_)
  exact ⟨rv, e2, G', p, E3.go res, ((x1.trans x2).trans x3).trans (res.ext E3.bh), k1.trans k3, E3.goR res rr⟩
/-! list.index -/
def opIndex : D → List D → (RV → Prop) → Prop
  | .lst ds, [d], Q => D.okD 59 d = true ∧ D.okL 59 ds = true ∧ ∃ j, ds[j]? = some d ∧ (∀ m z, m < j → ds[m]? = some z → z ≠ d) ∧ Q (.val (.int (j : Nat)))
  | _, _, _ => False
end
end VS

namespace VS
open PySem PySem.Spec L2

/-! ### within a def -/
section
variable {c : Cfg} {k : Nat} {N : List Str} {sc : Scope} {i : Nat} {x : Str}
theorem visI (h : visB N sc i x = true) : VisC (c.inn k N sc) i x := visC_of h
theorem stoI (h : stoB N sc (fun _ => true) i x = true) : StoC (c.inn k N sc) i x := stoC_of h
theorem glI (h : glB sc x = true) : GlC (c.inn k N sc) x := glC_of h
def okV (u : Value) (x : Str) : Bool := match bootBuiltins x with
  | some (.builtin a) => (match u with | .builtin b => a == b | _ => false)
  | some (.type a) => (match u with | .type b => a == b | _ => false)
  | _ => false
theorem okV_of {u : Value} (h : okV u x = true) : bootBuiltins x = some u := by
  unfold okV at h
  split at h
  · rename_i a e
    split at h
    · rw [e]
      simp at h
      rw [h]
    · cases h
  · rename_i a e
    split at h
    · rw [e]
      simp at h
      rw [h]
    · cases h
  · cases h
theorem bltI {u : Value} (m : c.mg x = none) (h1 : glB sc x = true) (h2 : okV u x = true) (h3 : decide (x = "__name__") = false) (h4 : (x == ("__debug__" : Str)) = false) : BltC (c.inn k N sc) x u := ⟨glC_of h1, m, okV_of h2, of_decide_eq_false h3, h4⟩
theorem FnC.inn {ms : List Bool} {F : FSp} (h : FnC (c.lv k) x ms F) : FnC (c.inn k N sc) x ms F := ⟨h.ex⟩
theorem Glb.inn {d : D} (h : Glb c x d) : Glb (c.inn k N sc) x d := ⟨h.ex⟩
theorem FnC.lvl {f : Addr} {fd : FuncData} {ps : List Str} {j : Nat} {ms : List Bool} {F : FSp} (h : FnOk c.P c.w c.K c.mg c.base (cxC c) j f fd ps (spV c ms F)) (hm : c.mg x = some (.ref f)) (hk : PySem.W.keepIn c.K (.ref f) = true) (hb : Binds c.K fd ps []) (l : j ≤ k) :
    FnC (c.lv k) x ms F := ⟨⟨f, fd, ps, h.mono l, hm, hk, hb⟩⟩
end
/-! ### written constants -/
structure ConstAt (K : PySem.W.Frag) (w : World) (g : Addr) (x : Str) (d : D) : Prop where
  ex : ∃ u v, PySem.W.nsIn K g x = some (some u) ∧ RelV v u ∧ Rep K w (fun _ => none) v d
theorem ConstAt.glb {c : Cfg} {x : Str} {d : D} {h : Heap} (C : ConstAt c.K c.w mainGlobals x d) (X : c.K.In h) (G : h.Ns mainGlobals c.mg) : Glb c x d := by
  obtain ⟨u, v, h1, h2, h3⟩ := C.ex
  exact ⟨u, v, PySem.W.mg_of X G h1, h2, h3⟩
theorem cx_false {P : Program} {w : World} {H : Hp} {s : Shared} {e : Value} {s' : Shared} (h : L2.CX P w [] H s (fun _ _ _ => False) e s') : False := by
  obtain ⟨_, _, _, _, _, _, _, _, _, _, _, _, f⟩ := h
  exact f
end VS

namespace VS
open PySem PySem.Spec L2
theorem ite_t {b : Bool} {A B : Prop} (h : b = true) (a : A) : if b = true then A else B := by rw [if_pos h]; exact a
theorem ite_f {b : Bool} {A B : Prop} (h : b = false) (a : B) : if b = true then A else B := by rw [if_neg (by rw [h]; decide)]; exact a
theorem mul_l {i j : Int} (h1 : -18446744073709551616 < i) (h2 : i < 18446744073709551616) : mulOk i j := .inl (.inl ⟨h1, h2⟩)
theorem mul_r {i j : Int} (h1 : -18446744073709551616 < j) (h2 : j < 18446744073709551616) : mulOk i j := .inl (.inr ⟨h1, h2⟩)
section
variable {K : PySem.W.Frag} {w : World} {G : Hp} {g a b : Addr} {x : Str} {d : D} {u : Value} {v : V}
theorem constAt_ref (h1 : PySem.W.nsIn K g x = some (some (.ref a))) (h : Rep K w (fun _ => none) (.ref a) d) : ConstAt K w g x d := ⟨⟨.ref a, .ref a, h1, rfl, h⟩⟩
theorem constAt_int {i : Int} {t : Tok} (h1 : PySem.W.nsIn K g x = some (some (.int i t))) : ConstAt K w g x (.int i) := ⟨⟨.int i t, .int i, h1, ⟨_, rfl⟩, .int _⟩⟩
theorem constAt_str {y : Str} {t : Tok} (h1 : PySem.W.nsIn K g x = some (some (.str y t))) : ConstAt K w g x (.str y) := ⟨⟨.str y t, .str y, h1, ⟨_, rfl⟩, .str _⟩⟩
theorem vals_nil : Vals [] [] := .nil
theorem vals_int {vs : List V} {us : List Value} {i : Int} {t : Tok} (h : Vals vs us) : Vals (.int i :: vs) (.int i t :: us) := .cons ⟨_, rfl⟩ h
theorem vals_str {vs : List V} {us : List Value} {i : Str} {t : Tok} (h : Vals vs us) : Vals (.str i :: vs) (.str i t :: us) := .cons ⟨_, rfl⟩ h
theorem rep_ktup {od : Option Addr} {its : Array Value} {n : Nat} {sl : Array (Option Value)} {vs : List V} {ds : List D} (l : K.lookup a = some ⟨.type "tuple", od, .seq its n, sl⟩) (z : its.size ≤ sizeLine) (h : Vals vs its.toList) (r : RepL K w G vs ds) : Rep K w G (.ref a) (.ktup ds) := .ktup ⟨_, its, n, l, rfl, rfl, z, h⟩ r
theorem repC_ref {es : Array DictEntry} {n : Nat} {ds : List (D × D)} (l : K.lookup a = some ⟨.type "dict", none, .dict es n, #[]⟩) (k : PySem.W.KeysLit w.params es.toList) (e : PySem.W.nsIn K a x = some (some (.ref b))) (h : Rep K w G (.ref b) d) (t : RepC K w G a ds) : RepC K w G a ((.str x, d) :: ds) := .cons (v := .ref b) ⟨es, n, _, l, k, e, rfl⟩ h t
end
end VS

namespace VS
open PySem PySem.Spec L2

/-! ### list comprehensions -/
def Cfg.blk (c : Cfg) (scope : Scope) : Cfg := { c with scope := relS scope c.scope, fn := fun x => scope.names.lookup x == some .cell, top := false }
def wipeE (env : Env) : List Nat → Env
  | [] => env
  | i :: is => (wipeE env is).set i .emp
def noX : XQ := fun _ _ => False
theorem takes_no {c : Cfg} {X : Cx} {G B : Hp} {σ : St} {env : Env} : TakesC c X (WXo c G B σ env noX) := ⟨fun _ u s' ⟨_, _, _, _, _, _, _, _, _, _, _, _, _, _, _, _, _, _, _, q, _⟩ => (show False from q).elim, fun _ u s' ⟨_, _, _, _, _, _, _, _, _, _, _, _, _, _, _, _, _, _, _, q, _⟩ => (show False from q).elim⟩
def wLc (g : GT) (tt : TTt) (te : ET) (is : List Nat) (Q : List D → Env → Prop) : List D → List D → Env → Prop
  | [], acc, env => Q acc env
  | d :: ds, acc, env => g d env fun e1 => tt e1 (fun b e2 => if b = true then te e2 (fun rv e3 => ∃ dv e4, fz e3 rv = some (dv, e4) ∧ acc.length < sizeLine ∧ wLc g tt te is Q ds (acc ++ [dv]) (wipeE e4 is)) noX else wLc g tt te is Q ds acc (wipeE e2 is)) noX
@[irreducible] def WC (g : GT) (tt : TTt) (te : ET) (is : List Nat) (Q : List D → Env → Prop) (ds : List D) (env : Env) : Prop := wLc g tt te is Q ds [] env
theorem WC_eq {g : GT} {tt : TTt} {te : ET} {is : List Nat} {Q : List D → Env → Prop} {ds : List D} {env : Env} : WC g tt te is Q ds env = wLc g tt te is Q ds [] env := by unfold WC; rfl
def eLc (it : IT) (g : GT) (tt : TTt) (te : ET) (is : List Nat) : ET := fun env Q Xq => it env (fun ds lk e1 => WC g tt te is (fun acc e => Q (.fr (.lst acc)) (unl lk e)) ds (wipeE (lockE lk e1) is)) Xq
def tYesD : TTt := fun env Q _ => Q true env
structure VTs (c : Cfg) (ifs : List Expr) (t : TTt) : Prop where
  run : ∀ (X : Cx), Good c X → ∃ tt : TT, PTs X ifs tt ∧ ∀ (G B H : Hp) (σ : St) (env : Env) (Q : Bool → Env → Prop) (Xq : XQ),
    RepEnv c G B H σ env → t env Q Xq → TakesC c X (WXo c G B σ env Xq) → ∀ R : Bool → Hp → Prop, (∀ b H', VQt c G B σ env Q b H' → R b H') → tt σ H R
theorem vts_nil {c : Cfg} : VTs c [] tYesD := ⟨fun X g => ⟨_, pts_nil, fun G B H σ env Q Xq E q tk R h => h _ _ ⟨env, G, q, E, Ext.refl _ _, Keeps.refl _⟩⟩⟩
theorem vts_one {c : Cfg} {e : Expr} {t : TTt} (h : VT c e t) : VTs c [e] t := ⟨fun X g => ⟨_, pts_one (pt_tu (e := e)), fun G B H σ env Q Xq E q tk R hR => (h.run X g G B H σ env Q Xq E q tk).imp hR⟩⟩
theorem wipeE_length (env : Env) : ∀ is : List Nat, (wipeE env is).length = env.length
  | [] => rfl
  | i :: is => by unfold wipeE; rw [List.length_set, wipeE_length env is]
theorem wipeE_get {env : Env} {j : Nat} : ∀ {is : List Nat} {s : Slot}, (wipeE env is)[j]? = some s → s = .emp ∨ (env[j]? = some s ∧ j ∉ is)
  | [], s, h => .inr ⟨h, by simp⟩
  | i :: is, s, h => by
    unfold wipeE at h
    by_cases e : i = j
    · subst e
      by_cases hv : i < (wipeE env is).length
      · rw [List.getElem?_set_self hv] at h
        exact .inl (Option.some.inj h).symm
      · rw [List.getElem?_eq_none (by simpa using hv)] at h
        cases h
    · rw [List.getElem?_set_ne e] at h
      rcases wipeE_get h with h | ⟨h1, h2⟩
      · exact .inl h
      · exact .inr ⟨h1, by simp only [List.mem_cons, not_or]; exact ⟨fun z => e z.symm, h2⟩⟩
section
variable {c : Cfg} {scope : Scope}
theorem Good.blk {X : Cx} (g : Good c X) (s : Shared) (H : Hp) (C : Addr) (cl : List (Str × Addr)) (fp : List Addr) : Good (c.blk scope) (X.blk s H scope (compEnvC scope cl C X.env) fp) where
  prog := g.prog
  w := g.w
  K := g.K
  mg := g.mg
  base := g.base
  N := g.N
  nd := g.nd
  scope := by
    show relS scope X.env.scope = relS scope c.scope
    rw [g.scope]
  fn := rfl
  roomH := g.roomH
  calmH := g.calmH
  po := PassesOwn.never
  stk := fun h => nomatch h
/-- a RepEnv knows of a configuration its K and its w -/
theorem RepEnv.cfg {c' : Cfg} {G B H : Hp} {σ : St} {env : Env} (h1 : c'.K = c.K) (h2 : c'.w = c.w) (E : RepEnv c G B H σ env) : RepEnv c' G B H σ env :=
  ⟨E.gh, E.bh, E.len, by rw [h1, h2]; exact E.val, by rw [h1, h2]; exact E.own, by rw [h1, h2]; exact E.bor, E.dis⟩
theorem RepEnv.blk {G B H : Hp} {σ : St} {env : Env} (E : RepEnv c G B H σ env) : RepEnv (c.blk scope) G B H σ env := RepEnv.cfg (c := c) (c' := c.blk scope) rfl rfl E
theorem RepEnv.unblk {G B H : Hp} {σ : St} {env : Env} (E : RepEnv (c.blk scope) G B H σ env) : RepEnv c G B H σ env := RepEnv.cfg (c := c.blk scope) (c' := c) rfl rfl E
theorem RepEnv.wipe {G B H : Hp} {σ : St} {env : Env} (E : RepEnv c G B H σ env) (is : List Nat) : RepEnv c G B H (L2.wipe σ is) (wipeE env is) where
  gh := E.gh
  bh := E.bh
  len := by rw [wipe_length, wipeE_length]; exact E.len
  val := fun i d h => by
    rcases wipeE_get h with h | ⟨h, hi⟩
    · cases h
    · obtain ⟨v, h1, h2⟩ := E.val i d h
      exact ⟨v, by rw [wipe_out hi]; exact h1, h2⟩
  own := fun i d h => by
    rcases wipeE_get h with h | ⟨h, hi⟩
    · cases h
    · obtain ⟨a, o, h1, h2⟩ := E.own i d h
      exact ⟨a, o, by rw [wipe_out hi]; exact h1, h2⟩
  bor := fun i d h => by
    rcases wipeE_get h with h | ⟨h, hi⟩
    · cases h
    · obtain ⟨a, h1, h2⟩ := E.bor i d h
      exact ⟨a, by rw [wipe_out hi]; exact h1, h2⟩
  dis := fun i j d d' a h1 h2 h3 h4 => by
    rcases wipeE_get h1 with h | ⟨k1, l1⟩
    · cases h
    rcases wipeE_get h2 with h | ⟨k2, l2⟩
    · cases h
    rw [wipe_out l1] at h3
    rw [wipe_out l2] at h4
    exact E.dis i j d d' a k1 k2 h3 h4
/-- slots told again where the environment tells nothing of them -/
theorem RepEnv.back {G B H : Hp} {σ σ' : St} {env : Env} (E : RepEnv c G B H σ env) (hl : σ'.length = σ.length) (h : ∀ (i : Nat) (s : Slot), env[i]? = some s → s = .emp ∨ σ'[i]? = σ[i]?) : RepEnv c G B H σ' env where
  gh := E.gh
  bh := E.bh
  len := hl.trans E.len
  val := fun i d e => by
    obtain ⟨v, h1, h2⟩ := E.val i d e
    rcases h i _ e with q | q
    · cases q
    · exact ⟨v, q.trans h1, h2⟩
  own := fun i d e => by
    obtain ⟨a, o, h1, h2⟩ := E.own i d e
    rcases h i _ e with q | q
    · cases q
    · exact ⟨a, o, q.trans h1, h2⟩
  bor := fun i d e => by
    obtain ⟨v, h1, h2⟩ := E.bor i d e
    rcases h i _ e with q | q
    · cases q
    · exact ⟨v, q.trans h1, h2⟩
  dis := fun i j d d' a h1 h2 h3 h4 => by
    rcases h i _ h1 with q | q
    · cases q
    rcases h j _ h2 with q' | q'
    · cases q'
    exact E.dis i j d d' a h1 h2 (q.symm.trans h3) (q'.symm.trans h4)
theorem wipe_in {j : Nat} : ∀ {is : List Nat} (σ : St), j ∈ is → (L2.wipe σ is)[j]? = if j < σ.length then some none else none
  | i :: is, σ, hj => by
    unfold L2.wipe
    by_cases e : i = j
    · subst e
      by_cases hl : i < σ.length
      · rw [if_pos hl, List.getElem?_set_self (by rw [wipe_length]; exact hl)]
      · rw [if_neg hl, List.getElem?_eq_none (by rw [List.length_set, wipe_length]; omega)]
    · rw [List.getElem?_set_ne e]
      rcases List.mem_cons.mp hj with z | z
      · exact absurd z.symm e
      · exact wipe_in σ z
theorem wipe_wipe (σ : St) (is : List Nat) : L2.wipe (L2.wipe σ is) is = L2.wipe σ is := by
  apply List.ext_getElem?
  intro j
  by_cases hj : j ∈ is
  · rw [wipe_in _ hj, wipe_in _ hj, wipe_length]
  · rw [wipe_out hj]
theorem gnm_tch {is : List Nat} {σ σ' : St} (h : Tch is σ σ') : L2.wipe σ' is = L2.wipe σ is := by
  apply List.ext_getElem?
  intro j
  by_cases hj : j ∈ is
  · rw [wipe_in _ hj, wipe_in _ hj, h.1]
  · rw [wipe_out hj, wipe_out hj]
    exact h.2 j hj
/-- within a comprehension its list is lent -/
theorem RepEnv.lend {G B H : Hp} {σ : St} {env : Env} {D : Addr} {o : HO} (E : RepEnv c G B H σ env) (hb : B D = none) (hH : H D = some o) (hn : ∀ (i : Nat) (d : VS.D), env[i]? = some (Slot.own d) → σ[i]? ≠ some (some (V.ref D))) : RepEnv c G (upd B D o) H σ env where
  gh := E.gh
  bh := fun b u q => by
    by_cases e : b = D
    · subst e
      rw [upd_same] at q
      cases q
      exact hH
    · rw [upd_ne e] at q
      exact E.bh b u q
  len := E.len
  val := E.val
  own := fun i d e => by
    obtain ⟨a, u, h1, h2, h3, h4, h5⟩ := E.own i d e
    have ne : a ≠ D := fun z => hn i d e (by rw [← z]; exact h1)
    exact ⟨a, u, h1, h2, by rw [upd_ne ne]; exact h3, h4, h5⟩
  bor := fun i d e => by
    obtain ⟨v, h1, h2⟩ := E.bor i d e
    exact ⟨v, h1, h2.mono (same_new hb) (Same.refl _)⟩
  dis := E.dis
theorem RepEnv.unlend {G B H : Hp} {σ : St} {env : Env} {D : Addr} {o : HO} (E : RepEnv c G (upd B D o) H σ env) (hb : B D = none) (h : ∀ (i : Nat) (d : VS.D), env[i]? = some (Slot.bor d) → ∃ v, σ[i]? = some (some v) ∧ RD c.K c.w B G v d) : RepEnv c G B H σ env where
  gh := E.gh
  bh := fun b u q => E.bh b u (same_new hb b u q)
  len := E.len
  val := E.val
  own := fun i d e => by
    obtain ⟨a, u, h1, h2, h3, h4, h5⟩ := E.own i d e
    refine ⟨a, u, h1, h2, ?_, h4, h5⟩
    by_cases z : a = D
    · rw [z]; exact hb
    · rw [upd_ne z] at h3; exact h3
  bor := h
  dis := E.dis
theorem RepEnv.ne_lent {G B H : Hp} {σ : St} {env : Env} {D : Addr} {o : HO} (E : RepEnv c G (upd B D o) H σ env) : ∀ (i : Nat) (d : VS.D), env[i]? = some (Slot.own d) → σ[i]? ≠ some (some (V.ref D)) := fun i d e z => by
  obtain ⟨a, u, h1, h2, h3, h4, h5⟩ := E.own i d e
  rw [h1] at z
  cases z
  rw [upd_same] at h3
  cases h3
theorem RepEnv.bump {G B H : Hp} {σ : St} {env : Env} {D : Addr} {o : HO} (E : RepEnv c G B H σ env) (hg : G D = Option.none) (hb : B D = Option.none) (hn : ∀ (i : Nat) (d : VS.D), env[i]? = some (Slot.own d) → σ[i]? ≠ some (some (V.ref D))) : RepEnv c G B (upd H D o) σ env where
  gh := fun b u q => by rw [upd_ne (ne_of_none q hg)]; exact E.gh b u q
  bh := fun b u q => by rw [upd_ne (ne_of_none q hb)]; exact E.bh b u q
  len := E.len
  val := E.val
  own := fun i d e => by
    obtain ⟨a, u, h1, h2, h3, h4, h5⟩ := E.own i d e
    have ne : a ≠ D := fun z => hn i d e (by rw [← z]; exact h1)
    exact ⟨a, u, h1, h2, h3, by rw [upd_ne ne]; exact h4, h5⟩
  bor := E.bor
  dis := E.dis
theorem Ext.unlend {G G' B : Hp} {D : Addr} {o : HO} (x : Ext (upd B D o) G G') (hb : B D = Option.none) : Ext B G G' := ⟨x.1, fun p h => (x.2 p h).imp id fun q o' e' => q o' (by rw [upd_ne (ne_of_none e' hb)]; exact e')⟩
theorem lc_run {X : Cx} (g : Good c X) {tg iter elt : Expr} {ifs : List Expr} {is : List Nat} {it : IT} {gt : GT} {tt : TTt} {te : ET} (hi : VI c tg iter it)
    (hg : VG (c.blk scope) tg is gt) (ht : VTs (c.blk scope) ifs tt) (he : VE (c.blk scope) elt te) {G B H : Hp} {σ : St} {env : Env} {Q : RV → Env → Prop} {Xq : XQ} (E : RepEnv c G B H σ env) (q : eLc it gt tt te is env Q Xq) (tk : TakesC c X (WXo c G B σ env Xq)) (R : VK) (hR : ∀ v H', VQ c G B σ env Q v H' → R v H') :
    ∃ (mg : TG) (mt : TT) (me : TE),
      (∀ (s : Shared) (H : Hp) (C : Addr) (cl : List (Str × Addr)) (fp : List Addr), PG (X.blk s H scope (compEnvC scope cl C X.env) fp) tg mg) ∧ (∀ (s : Shared) (H : Hp) (C : Addr) (cl : List (Str × Addr)) (fp : List Addr), PTs (X.blk s H scope (compEnvC scope cl C X.env) fp) ifs mt) ∧
      (∀ (s : Shared) (H : Hp) (C : Addr) (cl : List (Str × Addr)) (fp : List Addr), PE (X.blk s H scope (compEnvC scope cl C X.env) fp) elt me) ∧ tLc (TUi X tg iter) mg mt me is σ H R := by
  -- what the parts ask, for whatever block
  refine ⟨fun v σ1 H1 R => ∀ (s : Shared) (H : Hp) (C : Addr) (cl : List (Str × Addr)) (fp : List Addr), TUg (X.blk s H scope (compEnvC scope cl C X.env) fp) tg v σ1 H1 R,
    fun σ1 H1 R => ∀ (s : Shared) (H : Hp) (C : Addr) (cl : List (Str × Addr)) (fp : List Addr), ∃ t : TT, PTs (X.blk s H scope (compEnvC scope cl C X.env) fp) ifs t ∧ t σ1 H1 R,
    fun σ1 H1 R => ∀ (s : Shared) (H : Hp) (C : Addr) (cl : List (Str × Addr)) (fp : List Addr), TU (X.blk s H scope (compEnvC scope cl C X.env) fp) elt σ1 H1 R,
    fun s H C cl fp => ⟨fun pins s' σ' H' v u R I r h => (h s H C cl fp) pins s' u I r⟩, fun s H C cl fp => ⟨fun pins s' σ' H' R I h => ?_⟩, fun s H C cl fp => ⟨fun pins s' σ' H' R I h => (h s H C cl fp) pins s' I⟩, ?_⟩
  · obtain ⟨t, h1, h2⟩ := h s H C cl fp
    exact h1.run pins s' σ' H' R I h2
  refine (hi.run X g G B H σ env _ Xq E q tk).imp fun J H1 ⟨ds, lk, e1, e1', G1, B', q1, E1, x1, k1, L, Wk⟩ => ?_
  have q1 : WC gt tt te is (fun acc e => Q (.fr (.lst acc)) (unl lk e)) ds (wipeE (lockE lk e1) is) := q1
  rw [WC_eq] at q1
  rw [← L.env] at q1
  intro DD hD
  have E1' := L.ok E1
  have gD : G1 DD = none := E1.gh.free hD
  have bD : B' DD = none := E1'.bh.free hD
  -- where the block stands
  refine ⟨fun i m H' => m = ds.length - i ∧ i ≤ ds.length ∧ ∃ e acc vs G', wLc gt tt te is (fun acc e => Q (.fr (.lst acc)) (unl lk e)) (ds.drop i) acc e ∧ RepEnv c G' B' H' (L2.wipe σ is) e ∧ Ext B' G1 G' ∧ H' DD = some (.lst vs) ∧ RepL c.K c.w G' vs acc ∧ G' DD = none ∧
    (∀ (i : Nat) (d : D), e[i]? = some (Slot.own d) → (L2.wipe σ is)[i]? ≠ some (some (V.ref DD))) ∧ ∃ e0, e = wipeE e0 is ∧ ∀ (i : Nat) (d : D), e[i]? = some (Slot.bor d) → e1'[i]? = some (Slot.bor d), ⟨ds.length, by simp, Nat.zero_le _, wipeE e1' is, [], [], G1, by simpa using q1, ?_, Ext.refl _ _, upd_same, .nil, gD, ?_, e1', rfl, ?_⟩, ?_⟩
  · have W := E1'.wipe is
    refine ⟨fun b u z => ?_, fun b u z => ?_, W.len, W.val, fun i d z => ?_, W.bor, W.dis⟩
    · exact same_new hD b u (W.gh b u z)
    · exact same_new hD b u (W.bh b u z)
    · obtain ⟨a, o, h1, h2, h3, h4, h5⟩ := W.own i d z
      exact ⟨a, o, h1, h2, h3, same_new hD _ _ h4, h5⟩
  · intro i d z w
    obtain ⟨a, o, h1, h2, h3, h4, h5⟩ := (E1'.wipe is).own i d z
    rw [w] at h1
    cases h1
    rw [hD] at h4
    cases h4
  · intro i d z
    rcases wipeE_get z with z | ⟨z, _⟩
    · cases z
    · exact z
  rintro i m H' ⟨rfl, hl, e, acc, vs, G', q3, E3, x3, hDD, rl, gDD, nown, e0, he0, hbor⟩
  by_cases hlt : i < ds.length
  · obtain ⟨w1, w2⟩ := Wk.go i ds[i] G' H' (List.getElem?_eq_getElem hlt) E3.gh E3.bh x3.1
    refine .inr ⟨w1, fun H4 => i + 1 ≤ ds.length ∧ ∃ e acc vs G', wLc gt tt te is (fun acc e => Q (.fr (.lst acc)) (unl lk e)) (ds.drop (i + 1)) acc e ∧ RepEnv c G' B' H4 (L2.wipe σ is) e ∧ Ext B' G1 G' ∧ H4 DD = some (.lst vs) ∧ RepL c.K c.w G' vs acc ∧ G' DD = none ∧
      (∀ (i : Nat) (d : D), e[i]? = some (Slot.own d) → (L2.wipe σ is)[i]? ≠ some (some (V.ref DD))) ∧ ∃ e0, e = wipeE e0 is ∧ ∀ (i : Nat) (d : D), e[i]? = some (Slot.bor d) → e1'[i]? = some (Slot.bor d), fun H4 h => ⟨ds.length - (i + 1), by omega, rfl, h⟩, fun x H5 y => ?_⟩
    obtain ⟨G5, res, rx⟩ := w2 x H5 y
    rw [List.drop_eq_getElem_cons hlt] at q3
    have E5 : RepEnv c G5 B' H5 (L2.wipe σ is) e := E3.go res
    have hD5 : H5 DD = some (.lst vs) := res.hh _ _ hDD
    have gD5 : G5 DD = none := res.none gDD ⟨_, hDD, rfl⟩
    have x5 : Ext B' G1 G5 := x3.trans (res.ext E3.bh)
    have E5' : RepEnv (c.blk scope) G5 (upd B' DD (.lst vs)) H5 (L2.wipe σ is) e := (E5.lend bD hD5 nown).blk
    intro s0 H0 C0 cl0 fp0
    have g0 := g.blk (scope := scope) s0 H0 C0 cl0 fp0
    refine (hg.run _ g0 G5 _ H5 _ e ds[i] x _ E5' rx q3).imp fun σ6 H6 ⟨eh, tc, e6, q6, E6, b6⟩ => ?_
    subst eh
    have hw6 : L2.wipe σ6 is = L2.wipe σ is := by
      rw [gnm_tch tc, wipe_wipe]
    have nb6 : ∀ (i : Nat) (d : D), e6[i]? = some (Slot.bor d) → e1'[i]? = some (Slot.bor d) := fun i d h => hbor i d (b6 i d h).1
    -- a turn's end
    have fin : ∀ {G7 H7 : Hp} {e7 : Env}, RepEnv (c.blk scope) G7 (upd B' DD (.lst vs)) H7 σ6 e7 → Ext (upd B' DD (.lst vs)) G5 G7 → (∀ (i : Nat) (d : D), e7[i]? = some (Slot.bor d) → e6[i]? = some (Slot.bor d)) →
        RepEnv c G7 B' H7 (L2.wipe σ is) (wipeE e7 is) ∧ Ext B' G1 G7 ∧ H7 DD = some (.lst vs) ∧ G7 DD = none ∧ (∀ (i : Nat) (d : D), (wipeE e7 is)[i]? = some (Slot.own d) → (L2.wipe σ is)[i]? ≠ some (some (V.ref DD))) ∧ ∀ (i : Nat) (d : D), (wipeE e7 is)[i]? = some (Slot.bor d) → e1'[i]? = some (Slot.bor d) := fun {G7 H7 e7} E7 x7 b7 => by
      have W7 := E7.unblk.wipe is
      rw [hw6] at W7
      have hb7 : ∀ (i : Nat) (d : D), (wipeE e7 is)[i]? = some (Slot.bor d) → e1'[i]? = some (Slot.bor d) := fun i d h => by
        rcases wipeE_get h with h | ⟨h, _⟩
        · cases h
        · exact nb6 i d (b7 i d h)
      have x17 : Ext B' G1 G7 := x5.trans (x7.unlend bD)
      refine ⟨W7.unlend bD fun i d h => ?_, x17, W7.bh _ _ upd_same, x7.none gD5 ⟨_, upd_same, rfl⟩, W7.ne_lent, hb7⟩
      obtain ⟨v, h1, h2⟩ := E1'.bor i d (hb7 i d h)
      rcases wipeE_get h with h | ⟨h, hi⟩
      · cases h
      · exact ⟨v, by rw [wipe_out hi]; exact h1, h2.mono (Same.refl _) x17.1⟩
    refine ⟨hw6, fun s1 H1 C1 cl1 fp1 => ?_⟩
    have g1 := g.blk (scope := scope) s1 H1 C1 cl1 fp1
    obtain ⟨mt, hmt, hmq⟩ := ht.run _ g1
    have tk1 : ∀ {s1 : Shared} {H1 : Hp} {C1 : Addr} {cl1 : List (Str × Addr)} {fp1 : List Addr} {G B : Hp} {σ : St} {env : Env}, TakesC (c.blk scope) (X.blk s1 H1 scope (compEnvC scope cl1 C1 X.env) fp1) (WXo (c.blk scope) G B σ env noX) := takes_no
    refine ⟨mt, hmt, hmq G5 _ H6 σ6 e6 _ noX E6 q6 tk1 _ fun b H7 ⟨e7, G7, q7, E7, x7, k7⟩ => ?_⟩
    cases b with
    | false =>
      simp only [Bool.false_eq_true, if_false] at q7 ⊢
      obtain ⟨f1, f2, f3, f4, f5, f6⟩ := fin E7 x7 k7.2
      exact ⟨hlt, _, _, vs, G7, q7, f1, f2, f3, rl.mono (res.gg.trans x7.1), f4, f5, e7, rfl, f6⟩
    | true =>
      simp only [if_true] at q7 ⊢
      intro s2 H2 C2 cl2 fp2
      refine (he.run _ (g.blk (scope := scope) s2 H2 C2 cl2 fp2) G7 _ H7 σ6 e7 _ noX E7 q7 tk1).imp fun y H8 ⟨rv, e8, G8, ⟨dv, e9, q8, hz, q9⟩, E8, x8, k8, r8⟩ => ?_
      obtain ⟨G9, x9, E9, r9, k9⟩ := RepR.fz E8 r8 q8
      obtain ⟨f1, f2, f3, f4, f5, f6⟩ := fin E9 ((x7.trans x8).trans x9) fun i d h => k7.2 i d (k8.2 i d (k9.2 i d h))
      have rl9 : RepL c.K c.w G9 vs acc := rl.mono ((res.gg.trans x7.1).trans (x8.1.trans x9.1))
      exact ⟨vs, f3, by rw [rl9.length]; exact hz, hlt, _, _, vs ++ [y], G9, q9, f1.bump f4 bD f5, f2, upd_same, rl9.append (.cons r9 .nil), f4, f5, e9, rfl, f6⟩
  · have e' : i = ds.length := by omega
    subst e'
    refine .inl ⟨Wk.stop G' H' E3.gh E3.bh x3.1, ?_⟩
    rw [List.drop_length] at q3
    have q3 : Q (.fr (.lst acc)) (unl lk e) := q3
    have hin : ∀ (i : Nat) (s : Slot), e[i]? = some s → s = .emp ∨ σ[i]? = (L2.wipe σ is)[i]? := fun i s h => by
      rw [he0] at h
      rcases wipeE_get h with h | ⟨_, hi⟩
      · exact .inl h
      · exact .inr (wipe_out hi).symm
    have E4 : RepEnv c G' B' H' σ e := E3.back (wipe_length _ _).symm hin
    obtain ⟨u1, u2, u3, u4⟩ := L.un E1 E4 x3 fun i d h => ⟨hbor i d h, rfl⟩
    refine hR _ _ ⟨_, _, G', q3, u1, x1.trans u2, ⟨u1.len.symm.trans E.len, fun i d h => k1.2 i d (u3 i d h).1⟩, u4 _ _ ⟨DD, _, rfl, gDD, bD, hDD, ⟨vs, rfl, rl⟩, fun i d h => ?_⟩⟩
    rcases hin i _ h with z | z
    · cases z
    · rw [z]
      exact nown i d h
/-- as a value -/
theorem ve_lc0 {tg iter elt : Expr} {ifs : List Expr} {own : List (Str × Nat)} {pos : Pos} {it : IT} {gt : GT} {tt : TTt} {te : ET} (hi : VI c tg iter it) (hk : blkC c.N c.scope scope own = true)
    (hg : VG (c.blk scope) tg (own.map (·.2)) gt) (ht : VTs (c.blk scope) ifs tt) (he : VE (c.blk scope) elt te) (hs : ∀ (env : PySem.Env) x, foldedSetIterable iter env x = pure x) (hc : c.calm = true := by rfl) : VE c (.ListComp elt [⟨tg, iter, ifs, 0⟩] scope pos) (eLc it gt tt te (own.map (·.2))) := by
  constructor
  intro X g G B H σ env Q Xq E q tk
  obtain ⟨mg, mt, me, h1, h2, h3, h4⟩ := lc_run (scope := scope) g hi hg ht he E q tk _ fun _ _ h => h
  exact TU.of (pe_lc (own := own) (g.calm hc) g.nd (pi_tu (tg := tg) (iter := iter)) (by rw [g.N, g.scope]; exact blkOk_by hk) h1 h2 h3 (fun x => hs X.env x)) h4
theorem vs_setLc0 {i : Nat} {y : Str} {py : Pos} {tg iter elt : Expr} {ifs : List Expr} {own : List (Str × Nat)} {pos spos : Pos} {it : IT} {gt : GT} {tt : TTt} {te : ET} (hy : StoC c i y) (hyl : c.scope.names.lookup y = some .local) (hi : VI c tg iter it) (hk : blkC c.N c.scope scope own = true)
    (hsw : ∀ X : Cx, Good c X → swapsWith (.ListComp elt [⟨tg, iter, ifs, 0⟩] scope pos) (some (.Name y py)) spos.line X.env = pure true)
    (hg : VG (c.blk scope) tg (own.map (·.2)) gt) (ht : VTs (c.blk scope) ifs tt) (he : VE (c.blk scope) elt te) (hs : ∀ (env : PySem.Env) x, foldedSetIterable iter env x = pure x) (hc : c.calm = true := by rfl) : VS1 c (.Assign [.Name y py] (.ListComp elt [⟨tg, iter, ifs, 0⟩] scope pos) spos) (sSet i (eLc it gt tt te (own.map (·.2)))) := by
  constructor
  intro X g G B H σ env D E q tk pins s I
  have hl : i < env.length := by
    rw [← E.len, I.len, g.N]
    exact (List.getElem?_eq_some_iff.mp hy.1).1
  obtain ⟨mg, mt, me, h1, h2, h3, h4⟩ := lc_run (Q := fun rv e1 => ∃ e2, VS.asgN i rv e1 = some e2 ∧ D.nx e2) (scope := scope) g hi hg ht he E q tk (fun v H1 => EN c G B σ env D.nx (σ.set i (some v)) H1) fun v H1 ⟨rv, e1, G1, ⟨e2, qa, qn⟩, E1, x1, k1, r1⟩ => by
    obtain ⟨G', x2, E2, b2⟩ := E1.asgN (by rw [k1.1]; exact hl) r1 qa
    exact ⟨e2, G', qn, E2, x1.trans x2, BorS.trans (k1.bors σ) b2⟩
  exact (ps_setLc (own := own) (g.calm hc) g.nd (by rw [g.N]; exact hy.1) (by rw [g.scope]; exact hyl) (hsw X g) (pi_tu (tg := tg) (iter := iter)) (by rw [g.N, g.scope]; exact blkOk_by hk) h1 h2 h3 (fun x => hs X.env x)).run pins s σ H _ I h4
/-! names within a block of a def, and within a block of a block -/
theorem visK {k : Nat} {N : List Str} {sc : Scope} {i : Nat} {x : Str} (h : visB N (relS scope sc) i x = true) : VisC ((c.inn k N sc).blk scope) i x := visC_of h
theorem stoK {k : Nat} {N : List Str} {sc : Scope} {i : Nat} {x : Str} (h : stoB N (relS scope sc) (fun x => scope.names.lookup x == some .cell) i x = true) : StoC ((c.inn k N sc).blk scope) i x := stoC_of h
theorem glK {k : Nat} {N : List Str} {sc : Scope} {x : Str} (h : glB (relS scope sc) x = true) : GlC ((c.inn k N sc).blk scope) x := glC_of h
theorem bltK {k : Nat} {N : List Str} {sc : Scope} {x : Str} {u : Value} (m : c.mg x = none) (h1 : glB (relS scope sc) x = true) (h2 : okV u x = true) (h3 : decide (x = "__name__") = false) (h4 : (x == ("__debug__" : Str)) = false) : BltC ((c.inn k N sc).blk scope) x u := ⟨glC_of h1, m, okV_of h2, of_decide_eq_false h3, h4⟩
theorem FnC.blk {k : Nat} {N : List Str} {sc : Scope} {x : Str} {ms : List Bool} {F : FSp} (h : FnC (c.lv k) x ms F) : FnC ((c.inn k N sc).blk scope) x ms F := ⟨h.ex⟩
theorem Glb.blk {k : Nat} {N : List Str} {sc : Scope} {x : Str} {d : D} (h : Glb c x d) : Glb ((c.inn k N sc).blk scope) x d := ⟨h.ex⟩
section
variable {s2 : Scope}
theorem visK2 {k : Nat} {N : List Str} {sc : Scope} {i : Nat} {x : Str} (h : visB N (relS s2 (relS scope sc)) i x = true) : VisC (((c.inn k N sc).blk scope).blk s2) i x := visC_of h
theorem stoK2 {k : Nat} {N : List Str} {sc : Scope} {i : Nat} {x : Str} (h : stoB N (relS s2 (relS scope sc)) (fun x => s2.names.lookup x == some .cell) i x = true) : StoC (((c.inn k N sc).blk scope).blk s2) i x := stoC_of h
theorem glK2 {k : Nat} {N : List Str} {sc : Scope} {x : Str} (h : glB (relS s2 (relS scope sc)) x = true) : GlC (((c.inn k N sc).blk scope).blk s2) x := glC_of h
theorem FnC.blk2 {k : Nat} {N : List Str} {sc : Scope} {x : Str} {ms : List Bool} {F : FSp} (h : FnC (c.lv k) x ms F) : FnC (((c.inn k N sc).blk scope).blk s2) x ms F := ⟨h.ex⟩
theorem Glb.blk2 {k : Nat} {N : List Str} {sc : Scope} {x : Str} {d : D} (h : Glb c x d) : Glb (((c.inn k N sc).blk scope).blk s2) x d := ⟨h.ex⟩
end
/-! the forms that are written -/
theorem ve_lc {k : Nat} {N : List Str} {sc : Scope} {tg iter elt : Expr} {ifs : List Expr} {own : List (Str × Nat)} {pos : Pos} {it : IT} {gt : GT} {tt : TTt} {te : ET} (hi : VI (c.inn k N sc) tg iter it) (hk : blkC N sc scope own = true)
    (hg : VG ((c.inn k N sc).blk scope) tg (own.map (·.2)) gt) (ht : VTs ((c.inn k N sc).blk scope) ifs tt) (he : VE ((c.inn k N sc).blk scope) elt te) (hs : ∀ (env : PySem.Env) x, foldedSetIterable iter env x = pure x := by intros; rfl) : VE (c.inn k N sc) (.ListComp elt [⟨tg, iter, ifs, 0⟩] scope pos) (eLc it gt tt te (own.map (·.2))) :=
  ve_lc0 hi hk hg ht he hs
theorem ve_lcK {s1 : Scope} {k : Nat} {N : List Str} {sc : Scope} {tg iter elt : Expr} {ifs : List Expr} {own : List (Str × Nat)} {pos : Pos} {it : IT} {gt : GT} {tt : TTt} {te : ET} (hi : VI ((c.inn k N sc).blk s1) tg iter it) (hk : blkC N (relS s1 sc) scope own = true)
    (hg : VG (((c.inn k N sc).blk s1).blk scope) tg (own.map (·.2)) gt) (ht : VTs (((c.inn k N sc).blk s1).blk scope) ifs tt) (he : VE (((c.inn k N sc).blk s1).blk scope) elt te) (hs : ∀ (env : PySem.Env) x, foldedSetIterable iter env x = pure x := by intros; rfl) : VE ((c.inn k N sc).blk s1) (.ListComp elt [⟨tg, iter, ifs, 0⟩] scope pos) (eLc it gt tt te (own.map (·.2))) :=
  ve_lc0 hi hk hg ht he hs
def setLcB (sc scope : Scope) (y : Str) (l1 l2 : Bool) : Bool := (match sc.kind with | .function => true | _ => false) && (match sc.names.lookup y with | some .local => true | _ => false) && !(scope.names.any fun (n, k) => n == y && (k == .local || k == .cell))
theorem vs_setLc {k : Nat} {N : List Str} {sc : Scope} {i : Nat} {y : Str} {py : Pos} {tg iter elt : Expr} {ifs : List Expr} {own : List (Str × Nat)} {pos spos : Pos} {it : IT} {gt : GT} {tt : TTt} {te : ET} (hy : StoC (c.inn k N sc) i y) (hb : setLcB sc scope y true true = true) (hi : VI (c.inn k N sc) tg iter it) (hk : blkC N sc scope own = true)
    (hg : VG ((c.inn k N sc).blk scope) tg (own.map (·.2)) gt) (ht : VTs ((c.inn k N sc).blk scope) ifs tt) (he : VE ((c.inn k N sc).blk scope) elt te) (hl : (py.line == pos.line) = true := by rfl) (hs : ∀ (env : PySem.Env) x, foldedSetIterable iter env x = pure x := by intros; rfl) :
    VS1 (c.inn k N sc) (.Assign [.Name y py] (.ListComp elt [⟨tg, iter, ifs, 0⟩] scope pos) spos) (sSet i (eLc it gt tt te (own.map (·.2)))) := by
  unfold setLcB at hb
  simp only [Bool.and_eq_true, Bool.not_eq_true'] at hb
  obtain ⟨⟨b1, b2⟩, b3⟩ := hb
  have k1 : sc.kind = .function := by
    split at b1
    · assumption
    · cases b1
  have k2 : sc.names.lookup y = some .local := by
    split at b2
    · assumption
    · cases b2
  exact vs_setLc0 hy k2 hi hk (fun X g => sw_true (by rw [g.scope]; exact k1) (by rw [g.scope]; exact k2) hl b3) hg ht he hs
end
end VS

namespace VS
open PySem PySem.Spec L2

/-! ### values of lists of one kind -/
section
variable {K : PySem.W.Frag} {w : World} {G : Hp}
theorem repL_intsI : ∀ {ns : List Int} {vs : List V}, RepL K w G vs (ns.map D.int) → vs = ns.map V.int
  | [], _, h => by cases h; rfl
  | n :: ns, _, h => by
    cases h with
    | cons q r =>
      cases q
      rw [repL_intsI r]; rfl
theorem repL_strsI : ∀ {ns : List Str} {vs : List V}, RepL K w G vs (ns.map D.str) → vs = ns.map V.str
  | [], _, h => by cases h; rfl
  | n :: ns, _, h => by
    cases h with
    | cons q r =>
      cases q
      rw [repL_strsI r]; rfl
end
section
variable {c : Cfg}
/-- one list argument -/
theorem seqD {G H : Hp} {v : V} {d : D} {ds : List D} (s : Same G H) (h : RD c.K c.w H G v d) (e : (d = .lst ds) ∨ (d = .tup ds) ∨ (d = .ktup ds)) : ∃ a vs, v = .ref a ∧ (SqL c.K H a vs ∨ SqT c.K H a vs) ∧ RepL c.K c.w G vs ds := by
  rcases e with e | e | e <;> subst e
  · obtain ⟨a, vs, rfl, hq, rr⟩ := h
    exact ⟨a, vs, rfl, .inl hq, rr⟩
  · cases (show Rep c.K c.w G v (.tup ds) from h) with
    | @tup a vs _ hq rr => exact ⟨a, vs, rfl, .inr (SqT.of (s _ _ hq)), rr⟩
  · cases (show Rep c.K c.w G v (.ktup ds) from h) with
    | @ktup a vs _ hq rr => exact ⟨a, vs, rfl, .inr (.inr hq), rr⟩

/-! ### tuple, list -/
def opTuple : List D → (RV → Prop) → Prop
  | [.lst xs], Q => Q (.val (.tup xs))
  | [.tup xs], Q => Q (.val (.tup xs))
  | [.ktup xs], Q => Q (.val (.ktup xs))
  | _, _ => False
def rTuple (K : PySem.W.Frag) : List V → Hp → VK → Prop := fun xs H Q => ∃ p ys, xs = [.ref p] ∧ ((SqL K H p ys ∧ ∀ l, H l = none → Q (.ref l) (upd H l (.tup ys))) ∨ (SqT K H p ys ∧ Q (.ref p) H))
theorem tuple_s : OpSn c (rTuple c.K) opTuple := by
  intro G H xs ds P K s r o f
  unfold opTuple at o
  split at o
  · cases r with
    | cons h r =>
    cases r
    obtain ⟨a, vs, rfl, hq, rr⟩ := h
    exact ⟨a, vs, rfl, .inl ⟨hq, f.tup s o rr⟩⟩
  · cases r with
    | cons h r =>
    cases r
    have h0 := h
    cases (show Rep c.K c.w G _ _ from h) with
    | @tup a vs _ hq rr => exact ⟨a, vs, rfl, .inr ⟨SqT.of (s _ _ hq), f.val s o h0⟩⟩
  · cases r with
    | cons h r =>
    cases r
    have h0 := h
    cases (show Rep c.K c.w G _ _ from h) with
    | @ktup a vs _ hq rr => exact ⟨a, vs, rfl, .inr ⟨.inr hq, f.val s o h0⟩⟩
  · exact o.elim
theorem r_tuple {X : Cx} (g : Good c X) : CallR X (.type "tuple") (rTuple c.K) := by rw [← g.K]; exact call_tuple_of
def opList : List D → (RV → Prop) → Prop
  | [.lst xs], Q => Q (.fr (.lst xs))
  | [.tup xs], Q => Q (.fr (.lst xs))
  | [.ktup xs], Q => Q (.fr (.lst xs))
  | _, _ => False
def rList (K : PySem.W.Frag) : List V → Hp → VK → Prop := fun xs H Q => ∃ p ys, xs = [.ref p] ∧ (SqL K H p ys ∨ SqT K H p ys) ∧ ∀ l, H l = none → Q (.ref l) (upd H l (.lst ys))
theorem list_s : OpSn c (rList c.K) opList := by
  intro G H xs ds P K s r o f
  unfold opList at o
  split at o
  all_goals first
    | exact o.elim
    | (cases r with
       | cons h r =>
       cases r
       obtain ⟨a, vs, rfl, hq, rr⟩ := seqD s h (by first | exact .inl rfl | exact .inr (.inl rfl) | exact .inr (.inr rfl))
       exact ⟨a, vs, rfl, hq, f.lst s o rr⟩)
theorem r_list {X : Cx} (g : Good c X) : CallR X (.type "list") (rList c.K) := by rw [← g.K]; exact call_list_of

/-! ### sum, max, min, all, any of a list -/
def opSum : List D → (RV → Prop) → Prop
  | [.lst xs], Q => ∃ ns : List Int, xs = ns.map D.int ∧ Q (.val (.int ns.sum))
  | _, _ => False
theorem sum_s : OpSn c (rSum c.K) opSum := by
  intro G H xs ds P K s r o f
  unfold opSum at o
  split at o
  · obtain ⟨ns, rfl, p⟩ := o
    cases r with
    | cons h r =>
    cases r
    obtain ⟨a, vs, rfl, hq, rr⟩ := h
    obtain rfl := repL_intsI rr
    exact ⟨a, ns, rfl, hq, f.val s p (.int _)⟩
  · exact o.elim
theorem r_sum {X : Cx} (g : Good c X) (hc : c.calm = true := by rfl) : CallR X (.builtin "sum") (rSum c.K) := by rw [← g.K]; exact cr_sum (g.calm hc)
def opMax1 : List D → (RV → Prop) → Prop
  | [.lst xs], Q => ∃ ns : List Int, xs = ns.map D.int ∧ 0 < ns.length ∧ ∀ m, m ∈ ns → (∀ y, y ∈ ns → y ≤ m) → Q (.val (.int m))
  | _, _ => False
def opMin1 : List D → (RV → Prop) → Prop
  | [.lst xs], Q => ∃ ns : List Int, xs = ns.map D.int ∧ 0 < ns.length ∧ ∀ m, m ∈ ns → (∀ y, y ∈ ns → m ≤ y) → Q (.val (.int m))
  | _, _ => False
def opAll : List D → (RV → Prop) → Prop
  | [.lst xs], Q => ∃ bs : List Bool, xs = bs.map D.bl ∧ Q (.val (.bl (bs.all id)))
  | _, _ => False
def opAny : List D → (RV → Prop) → Prop
  | [.lst xs], Q => ∃ bs : List Bool, xs = bs.map D.bl ∧ Q (.val (.bl (bs.any id)))
  | _, _ => False
/-! ### int, str, divmod -/
def opInt : List D → (RV → Prop) → Prop
  | [.int i], Q => Q (.val (.int i))
  | [.bl k], Q => Q (.val (.int (if k then 1 else 0)))
  | [.str a], Q => ∃ n, PySem.intText? a = some n ∧ a.length ≤ 640 ∧ Q (.val (.int n))
  | _, _ => False
def rInt : List V → Hp → VK → Prop := fun xs H Q => ((∃ i, xs = [.int i] ∧ Q (.int i) H) ∨ ∃ k, xs = [.bl k] ∧ Q (.int (if k then 1 else 0)) H) ∨ ∃ a n, xs = [.str a] ∧ PySem.intText? a = some n ∧ a.length ≤ 640 ∧ Q (.int n) H
def opStr : List D → (RV → Prop) → Prop
  | [.int i], Q => i.natAbs.log2 < 1920 ∧ Q (.val (.str (toString i)))
  | _, _ => False
def opDivmod : List D → (RV → Prop) → Prop
  | [.int i, .int j], Q => CDiv i j ∧ Q (.val (.tup [.int (i / j), .int (i % j)]))
  | _, _ => False
/-! ### methods -/
def opJoin : D → List D → (RV → Prop) → Prop
  | .str a, [.lst ds], Q => ∃ ys : List Str, ds = ys.map D.str ∧ (ys.map (·.length)).sum + ys.length * a.length ≤ 16777216 ∧ Q (.val (.str (Txt.join a ys)))
  | .str a, [.tup ds], Q => ∃ ys : List Str, ds = ys.map D.str ∧ (ys.map (·.length)).sum + ys.length * a.length ≤ 16777216 ∧ Q (.val (.str (Txt.join a ys)))
  | _, _, _ => False
def rJoin (K : PySem.W.Frag) : V → List V → Hp → VK → Prop := fun x xs H Q => ∃ a p, ∃ ys : List Str, x = .str a ∧ xs = [.ref p] ∧ (SqL K H p (ys.map V.str) ∨ SqT K H p (ys.map V.str)) ∧
    (ys.map (·.length)).sum + ys.length * a.length ≤ 16777216 ∧ Q (.str (Txt.join a ys)) H
theorem join_s : OpSm c (rJoin c.K) opJoin := by
  intro G H x xs d ds P K s rx rs o f
  unfold opJoin at o
  split at o
  all_goals first
    | exact o.elim
    | (obtain ⟨ys, rfl, hz, p⟩ := o
       cases rs with
       | cons h r =>
       cases r
       cases rx
       obtain ⟨a, vs, rfl, hq, rr⟩ := seqD s h (by first | exact .inl rfl | exact .inr (.inl rfl))
       obtain rfl := repL_strsI rr
       exact ⟨_, a, ys, rfl, rfl, hq, hz, f.val s p (.str _)⟩)
theorem r_join {X : Cx} (g : Good c X) : MtR X "str.join" (rJoin c.K) := by rw [← g.K]; exact mt_join
def flatD : D → Bool
  | .lst _ => false
  | .dic _ _ => false
  | .dix _ => false
  | _ => true
def opGet : D → List D → (RV → Prop) → Prop
  | .dic t kvs, [k], Q => keyOk t k = true ∧ Q (.val ((dget kvs k).getD .non))
  | .dic t kvs, [k, d], Q => keyOk t k = true ∧ flatD d = true ∧ Q (.val ((dget kvs k).getD d))
  | _, _, _ => False
def rGet : V → List V → Hp → VK → Prop := fun x xs H Q => ∃ a y o, x = .ref a ∧ DGet H a y o ∧ ((xs = [y] ∧ Q (o.getD .non) H) ∨ ∃ z, xs = [y, z] ∧ Q (o.getD z) H)
def opUpper : D → List D → (RV → Prop) → Prop
  | .str a, [], Q => a.length ≤ 5592405 ∧ Q (.val (.str (Txt.upper a)))
  | _, _, _ => False
def opSplit : D → List D → (RV → Prop) → Prop
  | .str a, [.str b], Q => (b.length == 0) = false ∧ a.length + 2 ≤ sizeLine ∧ Q (.fr (.lst ((Txt.split a b).map D.str)))
  | _, _, _ => False
def rSplit : V → List V → Hp → VK → Prop := fun x xs H Q => ∃ a b, x = .str a ∧ xs = [.str b] ∧ (b.length == 0) = false ∧ a.length + 2 ≤ sizeLine ∧ rNewStrs (Txt.split a b) H Q
/-! ### x.clear(), x a dict of ours, or a list of ours -/
variable {pos : Pos}
def rClrD : V → List V → Hp → VK → Prop := fun x vs H Q => ∃ a, x = .ref a ∧ vs = [] ∧ ((∃ kvs, H a = some (.dK kvs) ∧ Q .non (upd H a (.dK []))) ∨ ∃ kvs, H a = some (.dT kvs) ∧ Q .non (upd H a (.dT [])))
/-- x.clear(), x a dict of ours -/
def eClrD (i : Nat) : ET := fun env Q _ => ∃ t kvs e', env[i]? = some (.own (.dic t kvs)) ∧ env.set i (.own (.dic t [])) = e' ∧ Q (.val .non) e'
/-- x.clear(), x.reverse(), x a list of ours -/
def eClrL (i : Nat) : ET := fun env Q _ => ∃ ds e', env[i]? = some (.own (.lst ds)) ∧ env.set i (.own (.lst [])) = e' ∧ Q (.val .non) e'
def eRevL (i : Nat) : ET := fun env Q _ => ∃ ds e', env[i]? = some (.own (.lst ds)) ∧ env.set i (.own (.lst ds.reverse)) = e' ∧ Q (.val .non) e'
/-- x.extend(e), e a new list -/
def eExt (i : Nat) (t : ET) : ET := fun env Q Xq => ∃ ds0, env[i]? = some (.own (.lst ds0)) ∧ t env (fun rv e1 => ∃ es ds, rv = .fr (.lst es) ∧ e1[i]? = some (.own (.lst ds)) ∧ ds.length + es.length ≤ sizeLine ∧ ∃ e3, e1.set i (.own (.lst (ds ++ es))) = e3 ∧ Q (.val .non) e3) Xq
/-- a method of a built-in type without arguments -/
def eMth0 (T : String) (op : D → List D → (RV → Prop) → Prop) (to : ET) : ET := fun env Q Xq => to env (fun r e1 => ∃ d, rd e1 r = some d ∧ tyM T d = true ∧ op d [] fun r => Q r e1) Xq
def rUpper : V → List V → Hp → VK → Prop := fun x xs H Q => ∃ a, x = .str a ∧ xs = [] ∧ a.length ≤ 5592405 ∧ Q (.str (Txt.upper a)) H
end
end VS

namespace VS
open PySem PySem.Spec L2

/-! ### {k: v}, k a tuple of ints and texts -/
def eDic1 (tk tv : ET) : ET := fun env Q _ => tk env (fun rk e1 => tv e1 (fun rv e2 => ∃ dv e3 dk, fz e2 rv.hold = some (dv, e3) ∧ rd e3 rk.hold.hold = some dk ∧ isKT dk = true ∧ Q (.fr (.dic true [(dk, dv)])) e3) noX) noX
section
variable {c : Cfg} {pos : Pos} {k v : Expr} {tk tv : ET}
/-! ### {k: v, ..}, keys ints and texts -/
def ePairs : List (ET × ET) → Env → (List (D × D) → Env → Prop) → Prop
  | [], env, Q => Q [] env
  | (tk, tv) :: r, env, Q => tk env (fun rk e1 => tv e1 (fun rv e2 => ∃ dv e3 dk, fz e2 rv.hold = some (dv, e3) ∧ rk = .val dk ∧ isK dk = true ∧ ePairs r e3 fun ps e4 => Q ((dk, dv) :: ps) e4) noX) noX
def mergeD (kvs more : List (D × D)) : List (D × D) := more.foldl (fun acc kv => dput acc kv.1 kv.2) kvs
def eDisp (ts : List (ET × ET)) : ET := fun env Q _ => ePairs ts env fun ps e1 => Q (.fr (.dic false (mergeD [] ps))) e1
structure VPs (c : Cfg) (pos : Pos) (ks : List (Option Expr)) (vs : List Expr) (ts : List (ET × ET)) : Prop where
  run : ∀ X : Cx, Good c X → ∃ trs, PPs X pos ks vs trs ∧ ∀ (G B H : Hp) (σ : St) (env : Env) (Q : List (D × D) → Env → Prop) (R : List (V × V) → Hp → Prop), RepEnv c G B H σ env → ePairs ts env Q →
    (∀ (kvs : List (Key × V)) (ds : List (D × D)) (env' : Env) (G' H' : Hp), kvs.length = ts.length → Q ds env' → RepEnv c G' B H' σ env' → Ext B G G' → Keeps env env' → RepK c.K c.w G' kvs ds → R (kvs.map fun kv => (kV kv.1, kv.2)) H') → tPairs trs σ H R
end
end VS

namespace VS
open PySem PySem.Spec L2 PySem.W
open PyProof.Rows (seqObj sortedHeap)

/-! ### sorted -/
def leD (a b : D) : Bool := dataLe false D.toPy a b
def tupExt (G H : Hp) : Hp := fun a => match G a with
  | some o => some o
  | none => match H a with
    | some (.tup vs) => some (.tup vs)
    | _ => none
section
variable {G H : Hp}
theorem tupExt_gg : Same G (tupExt G H) := fun b u e => by unfold tupExt; simp only [e]
theorem tupExt_at {b : Addr} {vs : List V} (s : Same G H) (e : H b = some (.tup vs)) : tupExt G H b = some (.tup vs) := by
  unfold tupExt
  cases q : G b with
  | some o =>
    have := s _ _ q
    rw [e] at this
    exact this.symm
  | none => simp only [e]
theorem tupExt_gh (s : Same G H) : Same (tupExt G H) H := fun b u e => by
  unfold tupExt at e
  split at e
  · rename_i o q
    cases e
    exact s _ _ q
  · split at e
    · rename_i vs q
      cases e
      exact q
    · cases e
theorem tupExt_fresh (s : Same G H) (a : Addr) (h : tupExt G H a ≠ none) : G a ≠ none ∨ Nu H a := by
  unfold tupExt at h
  split at h
  · rename_i o q
    exact .inl (by rw [q]; simp)
  · split at h
    · rename_i vs q
      refine .inr fun o e => ?_
      rw [q] at e
      cases e
      rfl
    · exact absurd rfl h
end
mutual
theorem Reads.lt {h : Heap} : ∀ (d : PyData) (v : Value) (as : List Addr), alike d d = true → Reads h v d as → ∀ a ∈ as, a < h.objs.size
  | .none, _, _, _, r => by cases r; intro a ha; cases ha
  | .bool _, _, _, _, r => by cases r; intro a ha; cases ha
  | .int _, _, _, _, r => by cases r; intro a ha; cases ha
  | .str _, _, _, _, r => by cases r; intro a ha; cases ha
  | .list xs, _, _, hal, r => by
    cases r with
    | list h1 h2 h3 h4 =>
      intro a ha
      rcases List.mem_cons.mp ha with rfl | ha
      · exact Heap.lt_size h1
      · exact ReadsAll.lt xs _ _ (by simpa [alike] using hal) h4 a ha
  | .tuple xs, _, _, hal, r => by
    cases r with
    | tuple h1 h2 h3 h4 => exact ReadsAll.lt xs _ _ (by simpa [alike] using hal) h4
  | .dict _, _, _, hal, _ => absurd hal (by simp [alike])
theorem ReadsAll.lt {h : Heap} : ∀ (ds : List PyData) (vs : List Value) (as : List Addr), alikeAll ds ds = true → ReadsAll h vs ds as → ∀ a ∈ as, a < h.objs.size
  | [], _, _, _, r => by cases r; intro a ha; cases ha
  | d :: ds, _, _, hal, r => by
    cases r with
    | cons h1 h2 =>
      intro a ha
      rcases List.mem_append.mp ha with ha | ha
      · exact Reads.lt d _ _ (alike_all_cons hal).1 h1 a ha
      · exact ReadsAll.lt ds _ _ (alike_all_cons hal).2 h2 a ha
end
/-- what is collected of x -/
def Col (K : PySem.W.Frag) (H : Hp) (x : V) (S : List V → Prop) : Prop :=
  (∃ a xs, x = .ref a ∧ (SqL K H a xs ∨ SqT K H a xs) ∧ S xs) ∨ (∃ a kvs, x = .ref a ∧ Rd H a (.dT kvs) ∧ ∀ bs, IsKeys H kvs bs → S (bs.map V.ref)) ∨ (∃ a kvs, x = .ref a ∧ Rd H a (.dK kvs) ∧ S (kvs.map fun kv => kV kv.1)) ∨ (∃ z : Str, x = .str z ∧ z.length ≤ sizeLine ∧ S (z.cps.toList.map fun ch => .str ⟨#[ch]⟩)) ∨ ∃ w0 a a' kvs, x = .ref a ∧ Rd H a (dxO w0 a' kvs) ∧ S (kvs.map fun e => V.ref e.2.1)
def PairD (K : PySem.W.Frag) (H : Hp) (xs : List V) (ds : List D) : Prop := Paired (fun x d => ∃ n, n ≤ 50 ∧ d.toPy.depth ≤ n ∧ Dp K H x d.toPy) xs ds
/-- the collected ones sorted -/
def rSortD (K : PySem.W.Frag) : List V → Hp → VK → Prop := fun vs H Q => ∃ x S ds, vs = [x] ∧ Col K H x S ∧ (∀ xs, S xs → PairD K H xs ds) ∧ (∀ d ∈ ds, ∀ e ∈ ds, alike d.toPy e.toPy = true) ∧ Sortable (ds.map D.toPy) ∧
  ∀ (xs : List V) (zs : List (V × D)) (p : Addr), S xs → xs.length = ds.length → zs.Perm (xs.zip ds) → zs.map (·.2) = ds.mergeSort leD → H p = none → Q (.ref p) (upd H p (.lst (zs.map (·.1))))
theorem vals_each {xs : List V} {us : List Value} (h : Vals xs us) {ds : List D} (hl : xs.length = ds.length) : EachIs (fun u (b : V × D) => RelV b.1 u) us (xs.zip ds) := by
  induction h generalizing ds with
  | nil => cases ds with
    | nil => exact .nil
    | cons d ds => simp at hl
  | cons h t ih => cases ds with
    | nil => simp at hl
    | cons d ds => exact .cons h (ih (by simpa using hl))
theorem each_vals : ∀ {us : List Value} {zs : List (V × D)}, EachIs (fun u (b : V × D) => RelV b.1 u) us zs → Vals (zs.map (·.1)) us
  | _, _, .nil => .nil
  | _, _, .cons h t => .cons h (each_vals t)
theorem dp_each {K : PySem.W.Frag} {H : Hp} {X : Cx} {pins : List (Addr × Obj)} {σ : St} {s : Shared} (I : Inv X pins σ H s) (hK : K = X.K) : ∀ {xs : List V} {us : List Value} {ds : List D}, Vals xs us → PairD K H xs ds → EachIs (fun u (b : V × D) => ∃ as, Reads s.heap u b.2.toPy as) us (xs.zip ds)
  | _, _, _, .nil, .nil => .nil
  | _, _, _, .cons h t, .cons q r => by
    subst hK
    obtain ⟨n, _, _, q⟩ := q
    obtain ⟨as, hr⟩ := Dp.reads I _ _ _ q h
    exact .cons ⟨as, hr⟩ (dp_each I rfl t r)
theorem strs_signs : ∀ (cs : List Nat) (us : List Value), us.length = cs.length → (∀ (j : Nat) (v : Value), us[j]? = some v → ∃ c t, cs[j]? = some c ∧ v = Value.str ⟨#[c]⟩ t) → Vals (cs.map fun ch => V.str ⟨#[ch]⟩) us
  | [], [], _, _ => .nil
  | c :: cs, u :: us, hl, h => by
    obtain ⟨c', t, e1, e2⟩ := h 0 u rfl
    cases e1
    refine .cons ⟨t, e2⟩ (strs_signs cs us (by simpa using hl) fun j v e => ?_)
    obtain ⟨c', t, a, b⟩ := h (j + 1) v (by simpa using e)
    exact ⟨c', t, by simpa using a, b⟩
  | [], _ :: _, hl, _ => by simp at hl
  | _ :: _, [], hl, _ => by simp at hl
theorem col_collect {X : Cx} (hc : X.calm = true) {pins : List (Addr × Obj)} {σ : St} {H : Hp} {s : Shared} {x : V} {u : Value} {S : List V → Prop} (I : Inv X pins σ H s) (ru : RelV x u) (h : Col X.K H x S) {R : List Value → Shared → Prop} {E : Value → Shared → Prop}
    (hR : ∀ (xs : List V) (h' : Heap) (tk : Nat) (us : List Value), S xs → xs.length ≤ sizeLine → (∀ b o, s.heap.get? b = some o → h'.get? b = some o) → Vals xs us → R us { s with heap := h', toks := tk }) : wpAny (model X.prog X.w) X.A.in1 (collect u) R E s := by
  rcases h with ⟨a, xs, rfl, h, hS⟩ | ⟨d, kvs, rfl, hd, hS⟩ | ⟨a, kvs, rfl, hd, hS⟩ | ⟨z, rfl, hl, hS⟩ | ⟨w0, d, a', kvs, rfl, hd, hS⟩
  · obtain rfl : u = Value.ref a := ru
    rcases h with h | h
    · obtain ⟨its, rv, ⟨o, n, ho, hcl, _, hd⟩, z⟩ := I.list h
      refine wpAny_collect_seq a (.inl rfl) ho hcl hd (fun h' kp => ?_) (by rw [List.size_toArray, ← rv.length]; exact z)
      have := hR xs h' s.toks its hS z kp rv
      simpa using this
    · obtain ⟨its, rv, ⟨o, ho, hcl, n, hd⟩, z⟩ := I.tuple h
      refine wpAny_collect_seq a (.inr rfl) ho hcl hd (fun h' kp => ?_) (by rw [List.size_toArray, ← rv.length]; exact z)
      have := hR xs h' s.toks its hS z kp rv
      simpa using this
  · obtain rfl : u = Value.ref d := ru
    obtain ⟨z, hs, ks, pr, o, es, ep, ho, hx, hdt, he, hn⟩ := (show ObjOk X.prog X.w H s.heap d (.dT kvs) from hd.ok I.hok)
    have l1 : es.size = ks.length := size_of_entries he
    have l2 : kvs.length = ks.length := Paired.length pr
    refine PySem.W.kdu_collect (A := X.A.in1) (kdl_raw hs hx hdt) (I.ok.hd hc) ho (by omega) fun h' tk acc' kp it => ?_
    have ea : acc'.toList = ks.map fun x => Value.ref x.2.1 := by
      have hl : acc'.toList.length = ks.length := by rw [Array.length_toList, it.1]; exact l1
      apply List.ext_getElem?
      intro j
      rw [List.getElem?_map]
      cases hj : acc'.toList[j]? with
      | none =>
        have h1 := List.getElem?_eq_none_iff.mp hj
        rw [List.getElem?_eq_none (by omega)]
        all_goals rfl
      | some v =>
        obtain ⟨en, hen, hv⟩ := it.2 j v (by rw [← Array.getElem?_toList]; exact hj)
        have qe := entry_at he j
        rw [hen] at qe
        cases hb : ks[j]? with
        | none =>
          rw [hb] at qe
          exact nomatch (show some en = none from qe)
        | some b =>
          rw [hb] at qe
          have e2 : en = entryOfKey (tupleKind (mixKind X.prog X.w)) b := Option.some.inj qe
          rw [hv, e2]
          all_goals rfl
    have eb : acc'.toList = (ks.map fun x => x.2.1).map Value.ref := by rw [ea, List.map_map]; all_goals rfl
    refine hR _ h' tk _ (hS _ (isKeys_of pr)) (by rw [List.length_map, List.length_map]; omega) kp ?_
    rw [eb]
    exact vals_refs _
  · obtain rfl : u = Value.ref a := ru
    obtain ⟨z, lo, vs, rel, dd⟩ := dk_rd I.hok hd
    obtain ⟨ep, hat⟩ := dd.dictAt
    have ek : (kvs.map fun kv => kV kv.1) = vs.map fun p => kV p.1 := by
      have e := congrArg (List.map kV) rel.keys
      rw [List.map_map, List.map_map] at e
      exact e
    refine PySem.W.kdu_collect (A := X.A.in1) (PySem.W.kdl_dict (knd := mixKind X.prog X.w) (kvs := vs) (ep := ep) lo) (I.ok.hd hc) hat (by rw [← rel.length]; exact z) fun h' tk acc hk hacc => ?_
    have hv : Vals (vs.map fun p => kV p.1) acc.toList := keys_at (by rw [Array.length_toList]; exact hacc.1) fun j v e => hacc.2 j v (by rw [← Array.getElem?_toList]; exact e)
    exact hR _ h' tk _ hS (by rw [List.length_map]; exact z) hk (by rw [ek]; exact hv)
  · obtain ⟨t, rfl⟩ : ∃ t, u = Value.str z t := ru
    refine wpAny_collect_str (A := X.A.in1) (I.ok.hd hc) z t (fun s' acc kp g1 g2 g3 it => ?_) hl
    have hv : Vals (z.cps.toList.map fun ch => V.str ⟨#[ch]⟩) acc.toList := strs_signs _ _ (by rw [Array.length_toList, it.1, Array.length_toList]) fun j v e => by
      obtain ⟨c, u, h1, h2⟩ := it.2 j v (by rw [← Array.getElem?_toList]; exact e)
      exact ⟨c, u, by rw [Array.getElem?_toList]; exact h1, h2⟩
    have := hR _ s'.heap s'.toks _ hS (by rw [List.length_map, Array.length_toList]; exact hl) kp hv
    have es : s' = { s with heap := s'.heap, toks := s'.toks } := by
      cases s'
      cases s
      simp only at g1 g2 g3
      subst g1 g2 g3
      rfl
    rw [es]
    exact this
  · obtain rfl : u = Value.ref d := ru
    obtain ⟨_, z, hs, ks, pr, o, es, ep, ho, hx, hdt, he, hn⟩ := dx_rd I.hok hd
    have l1 : es.size = ks.length := by rw [← Array.length_toList, he, List.length_map]
    have l2 : kvs.length = ks.length := Paired.length pr
    refine PySem.W.kdu_collect (A := X.A.in1) (kdl_raw hs hx hdt) (I.ok.hd hc) ho (by omega) fun h' tk acc' kp it => ?_
    have ea : acc'.toList = ks.map fun x => Value.ref x.2.1 := by
      have hl : acc'.toList.length = ks.length := by rw [Array.length_toList, it.1]; exact l1
      apply List.ext_getElem?
      intro j
      rw [List.getElem?_map]
      cases hj : acc'.toList[j]? with
      | none =>
        have h1 := List.getElem?_eq_none_iff.mp hj
        rw [List.getElem?_eq_none (by omega)]
        all_goals rfl
      | some v =>
        obtain ⟨en, hen, hv⟩ := it.2 j v (by rw [← Array.getElem?_toList]; exact hj)
        have qe : es[j]? = (ks[j]?).map (fun x => (⟨PySem.NestedKey.hash w0 x.1, .ref x.2.1, x.2.2⟩ : DictEntry)) := by
          rw [← Array.getElem?_toList, he, List.getElem?_map]
        rw [hen] at qe
        cases hb : ks[j]? with
        | none =>
          rw [hb] at qe
          exact nomatch (show some en = none from qe)
        | some b =>
          rw [hb] at qe
          have e2 : en = (⟨PySem.NestedKey.hash w0 b.1, .ref b.2.1, b.2.2⟩ : DictEntry) := Option.some.inj qe
          rw [hv, e2]
          all_goals rfl
    have eb : acc'.toList = (ks.map fun x => x.2.1).map Value.ref := by rw [ea, List.map_map]; all_goals rfl
    have ek : (kvs.map fun e => V.ref e.2.1) = (ks.map fun x => x.2.1).map V.ref := by
      have key : ∀ {l : List (PySem.NestedKey × Addr × V)} {m : List (PySem.NestedKey × Addr × Value)}, Paired (fun (p : PySem.NestedKey × Addr × V) (q : PySem.NestedKey × Addr × Value) => p.1 = q.1 ∧ p.2.1 = q.2.1 ∧ RelV p.2.2 q.2.2) l m → (l.map fun e => V.ref e.2.1) = (m.map fun x => x.2.1).map V.ref := by
        intro l m q
        induction q with
        | nil => rfl
        | cons h t ih => rw [List.map_cons, List.map_cons, List.map_cons, ih, h.2.1]
      exact key pr
    refine hR _ h' tk _ hS (by rw [List.length_map]; exact z) kp ?_
    rw [eb, ek]
    exact vals_refs _
theorem paired_mem {α β : Type} {R : α → β → Prop} : ∀ {xs : List α} {ys : List β}, Paired R xs ys → ∀ {y : β}, y ∈ ys → ∃ x, x ∈ xs ∧ R x y
  | _, _, .nil, _, h => nomatch h
  | _, _, .cons h t, y, hy => by
    rcases List.mem_cons.mp hy with rfl | hy
    · exact ⟨_, List.mem_cons_self .., h⟩
    · obtain ⟨x, h1, h2⟩ := paired_mem t hy
      exact ⟨x, List.mem_cons_of_mem _ h1, h2⟩
theorem r_sorted0 {X : Cx} (hc : X.calm = true) (hu : X.A.units + 64 < cLine) : CallR X (.builtin "sorted") (rSortD X.K) := by
  intro pins s σ H xs us Q I r h
  obtain ⟨x, S, ds, rfl, hcol, hp, hal, hso, q⟩ := h
  obtain ⟨u, rfl, rx⟩ := vals1 r
  refine Calls.call_function_entry PyProof.Rows.kind_sorted PyProof.Rows.plain_sorted PyProof.Rows.entry_sorted (PyProof.Rows.args_sorted1 _) ?_
  unfold Builtin.«sorted»
  refine wpAny_bind (m := checkCount "sorted" 1 1 _) (wpAny_pure ?_)
  refine wpAny_bind (col_collect hc I rx hcol fun xs h' tk us hS hz kp rv => ?_)
  have hpd := hp xs hS
  have hlen : xs.length = ds.length := Paired.length hpd
  have I1 : Inv X pins σ H { s with heap := h', toks := tk } := I.kept kp
  refine wpAny_bind (wpAny_newList ?_ (by rw [← rv.length]; exact hz))
  have hoL : (h'.push (seqObj "list" us.toArray 0)).get? h'.objs.size = some (seqObj "list" us.toArray 0) := Heap.get?_push_size _ rfl
  show wpAny _ _ _ _ _ { s with heap := h'.push (seqObj "list" us.toArray 0), toks := tk }
  have kp2 : ∀ b u, h'.get? b = some u → (h'.push (seqObj "list" us.toArray 0)).get? b = some u := fun b u e => Heap.get?_push_of_some _ e
  have I2 : Inv X pins σ H { s with heap := h'.push (seqObj "list" us.toArray 0), toks := tk } := I1.kept kp2
  have ev : EachIs (fun u (b : V × D) => RelV b.1 u) us (xs.zip ds) := vals_each rv hlen
  have er0 := dp_each I1 rfl rv hpd
  have mem2 : ∀ b ∈ xs.zip ds, b.2 ∈ ds := fun b hb => (List.of_mem_zip hb).2
  have er : EachIs (fun u (b : V × D) => ∃ as, Reads (h'.push (seqObj "list" us.toArray 0)) u b.2.toPy as ∧ h'.objs.size ∉ as) us (xs.zip ds) :=
    (each_mem er0).mono fun u b ⟨⟨as, hr⟩, hb⟩ => ⟨as, PyProof.Rows.Reads.keeps kp2 hr, fun hm => Nat.lt_irrefl _ (Reads.lt _ _ _ (hal _ (mem2 b hb) _ (mem2 b hb)) hr _ hm)⟩
  have e2 : (xs.zip ds).map (fun b => b.2.toPy) = ds.map D.toPy := by
    rw [← congrArg (List.map D.toPy) (List.map_snd_zip (l₁ := xs) (l₂ := ds) (by omega)), List.map_map]
    rfl
  refine wpAny_bind (wpAny_holding (wpAny_mono (list_sort_data (s := { s with heap := h'.push (seqObj "list" us.toArray 0), toks := tk }) (a := h'.objs.size) (n := 0) (enc := fun b : V × D => b.2.toPy) (R := fun u b => RelV b.1 u)
    (Q := fun _ s' => ∃ out : List Value, s' = { s with heap := sortedHeap (h'.push (seqObj "list" us.toArray 0)) h'.objs.size us (List.toArray out), toks := tk } ∧ EachIs (fun u (b : V × D) => RelV b.1 u) out ((xs.zip ds).mergeSort (dataLe false fun b => b.2.toPy)))
    (E := fun _ _ => False) hoL ev er ?_ ?_ ?_ ?_ ?_) (fun r s' hs => ?_) (fun e s' hs => ?_)))
  · rw [AllAlike, e2]
    intro d hd d' hd'
    obtain ⟨a, ha, rfl⟩ := List.mem_map.mp hd
    obtain ⟨b, hb, rfl⟩ := List.mem_map.mp hd'
    exact hal a ha b hb
  · rw [e2]; exact hso
  · rw [List.length_zip, hlen, Nat.min_self, ← hlen]; exact hz
  · intro b hb
    have hd := mem2 b hb
    obtain ⟨x0, _, n, h50, hdep, _⟩ := paired_mem hpd hd
    show X.A.units + 1 + 1 + b.2.toPy.depth < cLine
    omega
  · exact fun out hl he => ⟨out, rfl, he⟩
  · obtain ⟨out, rfl, he⟩ := hs
    refine wpAny_pure ⟨_, rfl, ?_⟩
    obtain ⟨ep, he'⟩ := PyProof.Rows.sortedHeap_at (vs := us) (out := out.toArray) hoL
    have hv := each_vals he
    have hperm : ((xs.zip ds).mergeSort (dataLe false fun b => b.2.toPy)).Perm (xs.zip ds) := List.mergeSort_perm _ _
    have hlz : (((xs.zip ds).mergeSort (dataLe false fun b => b.2.toPy)).map (·.1)).length ≤ sizeLine := by
      rw [List.length_map, hperm.length_eq, List.length_zip, hlen, Nat.min_self, ← hlen]; exact hz
    refine ⟨.ref h'.objs.size, upd H h'.objs.size (.lst (((xs.zip ds).mergeSort (dataLe false fun b => b.2.toPy)).map (·.1))), I1.laid (t' := tk) (fun b u e => ?_) (Nat.le_refl _)
      (show ObjOk X.prog X.w _ _ _ (.lst _) from ⟨hlz, out, ep, hv, he'⟩), rfl, q xs _ _ hS hlen hperm ?_ (I1.hok.fresh (Nat.le_refl _))⟩
    · have hb : b < h'.objs.size := Heap.lt_size e
      rw [PyProof.Rows.sortedHeap_old (Nat.ne_of_lt hb) (by rw [PyProof.Rows.size_push']; exact Nat.lt_succ_of_lt hb)]
      exact Heap.get?_push_of_some _ e
    · have em := sort_maps (r := dataLe false fun b : V × D => b.2.toPy) (s := leD) Prod.snd (l := xs.zip ds) (fun _ _ _ _ => rfl)
      rw [List.map_snd_zip (by omega)] at em
      exact em
  · exact hs.elim
/-- what is collected, by values -/
def colD : D → Option (List D)
  | .lst ds => some ds
  | .tup ds => some ds
  | .ktup ds => some ds
  | .dic _ kvs => some (kvs.map (·.1))
  | .dix kvs => some (kvs.map (·.1))
  | .str x => if x.length ≤ sizeLine then some (signs x) else none
  | _ => none
theorem repT_keys {c : Cfg} {G H : Hp} : ∀ {kvs : List (List Key × V)} {ds : List (D × D)}, RepT c.K c.w G kvs ds → Same G H → ∀ bs, IsKeys H kvs bs → RepL c.K c.w (tupExt G H) (bs.map V.ref) (ds.map (·.1))
  | _, _, .nil, s, bs, h => by cases h; exact .nil
  | _, _, .cons q r, s, bs, h => by
    cases h with
    | cons h1 h2 =>
      refine .cons (.tup (tupExt_at s h1) ?_) (repT_keys r s _ h2)
      have : ∀ ks : List Key, RepL c.K c.w (tupExt G H) (ks.map kV) (ks.map keyD) := fun ks => by
        induction ks with
        | nil => exact .nil
        | cons k ks ih => exact .cons (by cases k <;> first | exact .int _ | exact .str _) ih
      exact this _
theorem repK_keys {c : Cfg} {G G' : Hp} : ∀ {kvs : List (Key × V)} {ds : List (D × D)}, RepK c.K c.w G kvs ds → RepL c.K c.w G' (kvs.map fun kv => kV kv.1) (ds.map (·.1))
  | _, _, .nil => .nil
  | _, _, .cons (k := k) q r => .cons (by cases k <;> first | exact .int _ | exact .str _) (repK_keys r)
theorem repN_keys {c : Cfg} {G : Hp} : ∀ {kvs : List (PySem.NestedKey × Addr × V)} {ds : List (D × D)}, RepN c.K c.w G kvs ds → RepL c.K c.w G (kvs.map fun e => V.ref e.2.1) (ds.map (·.1))
  | _, _, .nil => .nil
  | _, _, .cons _ _ h _ r => .cons h (repN_keys r)
theorem rep_signs {K : PySem.W.Frag} {w : World} {G : Hp} : ∀ cs : List Nat, RepL K w G (cs.map fun ch => V.str ⟨#[ch]⟩) (cs.map fun ch => D.str ⟨#[ch]⟩)
  | [] => .nil
  | _ :: cs => .cons (.str _) (rep_signs cs)
theorem col_rep {c : Cfg} {G H : Hp} {v : V} {d : D} {ds : List D} (s : Same G H) (r : RD c.K c.w H G v d) (e : colD d = some ds) : ∃ S, Col c.K H v S ∧ ∀ xs, S xs → RepL c.K c.w (tupExt G H) xs ds := by
  have sq : ((d = .lst ds) ∨ (d = .tup ds) ∨ (d = .ktup ds)) → ∃ S, Col c.K H v S ∧ ∀ xs, S xs → RepL c.K c.w (tupExt G H) xs ds := fun e => by
    obtain ⟨a, vs, rfl, h1, h2⟩ := seqD s r e
    exact ⟨fun xs => xs = vs, .inl ⟨a, vs, rfl, h1, rfl⟩, fun xs hx => by subst hx; exact h2.mono tupExt_gg⟩
  unfold colD at e
  split at e
  · cases e; exact sq (.inl rfl)
  · cases e; exact sq (.inr (.inl rfl))
  · cases e; exact sq (.inr (.inr rfl))
  · rename_i t kvs
    cases e
    cases t with
    | false =>
      obtain ⟨a, ks, rfl, h1, h2⟩ := r
      exact ⟨fun xs => xs = ks.map fun kv => kV kv.1, .inr (.inr (.inl ⟨a, ks, rfl, h1, rfl⟩)), fun xs hx => by subst hx; exact repK_keys h2⟩
    | true =>
      obtain ⟨a, ks, rfl, h1, h2⟩ := r
      exact ⟨fun xs => ∃ bs, IsKeys H ks bs ∧ xs = bs.map V.ref, .inr (.inl ⟨a, ks, rfl, h1, fun bs hb => ⟨bs, hb, rfl⟩⟩), fun xs ⟨bs, hb, hx⟩ => by subst hx; exact repT_keys h2 s bs hb⟩
  · rename_i kvs
    cases e
    obtain ⟨a, a', ks, rfl, h1, h2⟩ := r
    exact ⟨fun xs => xs = ks.map fun e => V.ref e.2.1, .inr (.inr (.inr (.inr ⟨_, a, a', ks, rfl, h1, rfl⟩))), fun xs hx => by subst hx; exact (repN_keys h2).mono tupExt_gg⟩
  · split at e
    · rename_i x hx
      cases e
      cases r
      exact ⟨fun xs => xs = x.cps.toList.map fun ch => V.str ⟨#[ch]⟩, .inr (.inr (.inr (.inl ⟨x, rfl, hx, rfl⟩))), fun xs hx => by subst hx; exact rep_signs _⟩
    · cases e
  · cases e
theorem repL_pair {c : Cfg} {G H : Hp} (s : Same G H) : ∀ {xs : List V} {ds : List D}, RepL c.K c.w G xs ds → D.okL 50 ds = true → PairD c.K H xs ds
  | _, _, .nil, _ => .nil
  | _, _, .cons h r, o => by
    simp only [D.okL, Bool.and_eq_true] at o
    exact .cons ⟨50, Nat.le_refl _, (D.ok_lay 50 _ o.1).2, Rep.dp (h.mono s) o.1⟩ (repL_pair s r o.2)
theorem repL_zip {c : Cfg} {G : Hp} : ∀ {xs : List V} {ds : List D}, RepL c.K c.w G xs ds → ∀ b ∈ xs.zip ds, Rep c.K c.w G b.1 b.2
  | _, _, .nil, _, h => nomatch h
  | _, _, .cons h r, b, hb => by
    rcases List.mem_cons.mp hb with rfl | hb
    · exact h
    · exact repL_zip r b hb
theorem repL_unzip {c : Cfg} {G : Hp} : ∀ {zs : List (V × D)}, (∀ b ∈ zs, Rep c.K c.w G b.1 b.2) → RepL c.K c.w G (zs.map (·.1)) (zs.map (·.2))
  | [], _ => .nil
  | z :: zs, h => .cons (h z (List.mem_cons_self ..)) (repL_unzip fun b hb => h b (List.mem_cons_of_mem _ hb))
def sortOk (ds : List D) : Prop := D.okL 50 ds = true ∧ (∀ d ∈ ds, ∀ e ∈ ds, alike d.toPy e.toPy = true) ∧ Sortable (ds.map D.toPy)
def opSorted : List D → (RV → Prop) → Prop
  | [d], Q => ∃ ds, colD d = some ds ∧ sortOk ds ∧ Q (.fr (.lst (ds.mergeSort leD)))
  | _, _ => False
theorem sorted_s {c : Cfg} : OpSn c (rSortD c.K) opSorted := by
  intro G H xs ds P K s r o f
  unfold opSorted at o
  split at o
  · obtain ⟨ds, hc, ⟨h1, h2, h3⟩, p⟩ := o
    cases r with
    | cons h r =>
    cases r
    obtain ⟨S, hS, hR⟩ := col_rep s h hc
    have s' := tupExt_gh s
    refine ⟨_, S, ds, rfl, hS, fun xs hx => repL_pair s' (hR xs hx) h1, h2, h3, fun xs zs p0 hx hl hp hm hp0 => ?_⟩
    have rl : RepL c.K c.w (tupExt G H) (zs.map (·.1)) (zs.map (·.2)) := repL_unzip fun b hb => repL_zip (hR xs hx) b (hp.mem_iff.mp hb)
    rw [hm] at rl
    exact f _ (.ref p0) (tupExt G H) _ p ⟨same_new hp0, tupExt_gg, s'.trans (same_new hp0), tupExt_fresh s⟩ ⟨p0, _, rfl, hp0, s'.free hp0, upd_same, _, rfl, rl⟩
  · exact o.elim
theorem r_sorted {c : Cfg} {X : Cx} (g : Good c X) (hc : c.calm = true := by rfl) : CallR X (.builtin "sorted") (rSortD c.K) := by rw [← g.K]; exact r_sorted0 (g.calm hc) g.un
end VS

namespace VS
open PySem PySem.Spec L2

/-! ### a <= b < c, whole numbers -/
def eChain (p q : Int → Int → Bool) (ta tb tc : ET) : ET := fun env Q Xq => ta env (fun ra e1 => ∃ i, ra = .val (.int i) ∧ tb e1 (fun rb e2 => ∃ j, rb = .val (.int j) ∧ if p i j = true then tc e2 (fun rc e3 => ∃ k, rc = .val (.int k) ∧ Q (.val (.bl (q j k))) e3) Xq else Q (.val (.bl false)) e2) Xq) Xq
def iLt (i j : Int) : Bool := decide (i < j)
def iLe (i j : Int) : Bool := decide (i ≤ j)
section
variable {c : Cfg} {pos : Pos} {a b e : Expr} {ta tb tc : ET}
end

/-! ### a, b = x, y -/
def sPar (i j : Nat) (ta : AT) : STt := fun D env => ta env (fun rs e1 => ∃ d1 d2 e2, fzs e1 rs = some ([d1, d2], e2) ∧ ∃ e3, (e2.set i (.val d1)).set j (.val d2) = e3 ∧ D.nx e3) D.xq
def parB (N : List Str) (sc : Scope) (i j : Nat) (x y : Str) (px py : Pos) (vs : List Expr) : Bool :=
  decide (N[i]? = some x) && decide (N[j]? = some y) && decide (i ≠ j) && decide (x ≠ y) && (match sc.kind with | .function => true | _ => false) && (match sc.names.lookup x with | some .local => true | _ => false) && (match sc.names.lookup y with | some .local => true | _ => false) && (px.line == px.line) && (py.line == px.line)
   && !(vs.any fun | .Starred .. => true | _ => false) && !(vs.all (foldedForSure 8)) && !(vs.all (constantsAlone 8)) && decide (vs.length = 2)
theorem swap_ok {env : PySem.Env} {x y : Str} {px py pt pt2 : Pos} {kt k2 : _} {a b : Expr} (hk : env.scope.kind = .function) (h1 : env.scope.names.lookup x = some .local) (h2 : env.scope.names.lookup y = some .local) (hl : (py.line == px.line) = true) (hxy : x ≠ y)
    (hs : ([a, b].any fun | .Starred .. => true | _ => false) = false) (hf : [a, b].all (foldedForSure 8) = false) (hc : [a, b].all (constantsAlone 8) = false) :
    swappedStores [.Tuple [.Name x px, .Name y py] kt pt] (.Tuple [a, b] k2 pt2) env = pure (some [x, y]) := by
  have e1 : (env.kindOf x == some .local) = true := by
    have : env.kindOf x = some .local := h1
    rw [this]; rfl
  have e2 : (env.kindOf y == some .local) = true := by
    have : env.kindOf y = some .local := h2
    rw [this]; rfl
  have ek : env.blockKind = .function := by unfold PySem.Env.blockKind; rw [hk]; rfl
  have hp : (px.line == px.line) = true := by simp
  have n1 : (y == x) = false := by
    cases q : (y == x) with
    | false => rfl
    | true => exact absurd (eq_of_beq q).symm hxy
  have dd : [x, y].eraseDups = [x, y] := by
    rw [List.eraseDups_cons]
    have : [y].filter (fun b => !b == x) = [y] := by
      rw [List.filter_cons_of_pos (by rw [n1]; rfl)]; rfl
    rw [this]
    rfl
  unfold swappedStores
  simp only [ek, List.head?, Option.map, Option.getD, Expr.pos, List.filterMap, e1, e2, hl, hp, Bool.and_self, Bool.and_true, if_true, dd]
  refine (if_neg (fun h => absurd (show false = true from h) (by decide))).trans ?_
  refine (if_neg fun h => absurd (hs.symm.trans h) (by decide)).trans ?_
  refine (if_neg (fun h => absurd (show false = true from h) (by decide))).trans ?_
  refine (if_neg (by rw [hf]; decide)).trans ?_
  refine (if_neg (by rw [hc]; decide)).trans ?_
  rfl
section
variable {c : Cfg} {pos : Pos}
theorem vs_par {i j : Nat} {x y : Str} {a b : Expr} {ta : AT} {px py pt pt2 : Pos} {kt k2 : _} (hb : parB c.N c.scope i j x y px py [a, b] = true) (h : VA c [a, b] ta)
    (hs : ∀ env : PySem.Env, swapsWithSole [.Tuple [.Name x px, .Name y py] kt pt] (.Tuple [a, b] k2 pt2) pos.line env = pure false := by intros; rfl) (hc : c.calm = true := by rfl) :
    VS1 c (.Assign [.Tuple [.Name x px, .Name y py] kt pt] (.Tuple [a, b] k2 pt2) pos) (sPar i j ta) := by
  unfold parB at hb
  simp only [Bool.and_eq_true, decide_eq_true_eq, Bool.not_eq_true'] at hb
  obtain ⟨⟨⟨⟨⟨⟨⟨⟨⟨⟨⟨⟨b1, b2⟩, b3⟩, b4⟩, b5⟩, b6⟩, b7⟩, b8⟩, b9⟩, b10⟩, b11⟩, b12⟩, _⟩ := hb
  have hk : c.scope.kind = .function := by
    split at b5
    · assumption
    · cases b5
  have h1 : c.scope.names.lookup x = some .local := by
    split at b6
    · assumption
    · cases b6
  have h2 : c.scope.names.lookup y = some .local := by
    split at b7
    · assumption
    · cases b7
  constructor
  intro X g G B H σ env D E q tk
  refine TUs.of (ps_par (g.calm hc) g.nd (i := i) (j := j) (by rw [g.N]; exact b1) (by rw [g.N]; exact b2) b3 (by rw [g.scope]; exact h1) (by rw [g.scope]; exact h2) (pa_tu (es := [a, b])) (swap_ok (by rw [g.scope]; exact hk) (by rw [g.scope]; exact h1) (by rw [g.scope]; exact h2) b9 b4 b10 b11 b12) (hs X.env)) ?_
  intro pos' pins s I
  have li : i < env.length := by
    rw [← E.len, I.len, g.N]
    exact (List.getElem?_eq_some_iff.mp b1).1
  have lj : j < env.length := by
    rw [← E.len, I.len, g.N]
    exact (List.getElem?_eq_some_iff.mp b2).1
  refine thn ((h.run X g G B H σ env _ D.xq E q tk) pos' pins s I) fun us s1 ⟨vs, H1, I1, rr, rs, e1, G1, ⟨d1, d2, e2, qf, e3, qe, qn⟩, E1, x1, k1, r1⟩ => ⟨vs, H1, I1, rr, ?_⟩
  obtain ⟨G2, x2, E2, r2, k2⟩ := r1.fzs E1 qf
  cases r2 with
  | cons ra r2 =>
  cases r2 with
  | cons rb r2 =>
  cases r2
  subst qe
  have l1 : e2.length = env.length := by rw [k2.1, k1.1]
  have hi : i < e2.length := by rw [l1]; exact li
  have hj : j < (e2.set i (.val d1)).length := by rw [List.length_set, l1]; exact lj
  refine ⟨_, _, rfl, _, G2, qn, (E2.setVal hi ra).setVal hj rb, x1.trans x2, ?_⟩
  refine BorS.trans ((k1.trans k2).bors σ) (BorS.trans (bors_set hi fun d h => by cases h) (bors_set hj fun d h => by cases h))
end
end VS

namespace VS
open PySem PySem.Spec L2 PySem.W
open PyProof.Rows (itemOrd lexLt)

/-! ### the sorted list -/
theorem leD_total : TotalLe leD := (sortLe_total (PyProof.Rows.listOrd itemOrd) false fun d : D => keyToks d.toPy : TotalLe (dataLe false D.toPy))
theorem leD_pairwise (ds : List D) : (ds.mergeSort leD).Pairwise (fun a b => leD a b = true) := sort_pairwise leD_total ds
theorem toks_inj {x y : PyData} (h : alike x y = true) (e : keyToks x = keyToks y) : PyData.eqv x y = true := by
  cases q : PyData.eqv x y with
  | true => rfl
  | false =>
    have h1 := (toks_eqv x y h).2 q [.inl 0] [.inl 1]
    have h2 := (toks_eqv x y h).2 q [.inl 1] [.inl 0]
    rw [e, lex_pre] at h1 h2
    rw [← h1] at h2
    exact absurd h2 (by decide)
theorem leD_anti {n m : Nat} {a b : D} (ha : D.okD n a = true) (hb : D.okD m b = true) (hal : alike a.toPy b.toPy = true) (h1 : leD a b = true) (h2 : leD b a = true) : a = b := by
  refine (D.eqv_iff n m a b ha hb).mp (toks_inj hal ?_)
  have e1 : lexLt itemOrd (keyToks b.toPy) (keyToks a.toPy) = false := by
    have : (!lexLt itemOrd (keyToks b.toPy) (keyToks a.toPy)) = true := h1
    simpa using this
  have e2 : lexLt itemOrd (keyToks a.toPy) (keyToks b.toPy) = false := by
    have : (!lexLt itemOrd (keyToks a.toPy) (keyToks b.toPy)) = true := h2
    simpa using this
  exact (PyProof.Rows.listOrd itemOrd).total _ _ e2 e1
def sortable (ds : List D) : Prop := D.okL 50 ds = true ∧ ∀ d ∈ ds, ∀ e ∈ ds, alike d.toPy e.toPy = true
/-- in order, and the same ones: that is it -/
theorem sortD_eq {ds es : List D} (hs : sortable ds) (hp : es.Perm ds) (ho : es.Pairwise (fun a b => leD a b = true)) : ds.mergeSort leD = es := by
  refine List.Perm.eq_of_pairwise (le := fun a b => leD a b = true) (fun a b ha hb h1 h2 => ?_) (leD_pairwise ds) ho ((List.mergeSort_perm _ _).trans hp.symm)
  have ha' := (List.mergeSort_perm ds leD).mem_iff.mp ha
  have hb' := hp.mem_iff.mp hb
  exact leD_anti (okL_mem hs.1 a ha') (okL_mem hs.1 b hb') (hs.2 a ha' b hb') h1 h2
end VS

namespace VS
open PySem PySem.Spec L2

/-! ### f() -/
section
variable {c : Cfg} {pos p : Pos}
end
end VS

namespace VS
open PySem PySem.Spec L2

/-! ### loops over what is known -/
theorem for_each {g : GT} {b : STt} {D' : EndsD} {ds : List D} {env : Env} (I : Env → Prop) (h0 : I env) (fin : ∀ e, I e → D'.nx e)
    (step : ∀ d ∈ ds, ∀ e, I e → ∀ K : Env → Prop, (∀ e', I e' → K e') → g d e fun e1 => b { D' with nx := K, ct := K, bk := D'.nx } e1) : WL g b D' ds env := by
  rw [WL_eq]
  induction ds generalizing env with
  | nil => exact fin env h0
  | cons d ds ih => exact step d (List.mem_cons_self ..) env h0 _ fun e' he => ih he fun d hd => step d (List.mem_cons_of_mem _ hd)
/-- I by what is still to come -/
theorem for_inv {g : GT} {b : STt} {D' : EndsD} {ds : List D} {env : Env} (I : List D → Env → Prop) (h0 : I ds env) (fin : ∀ e, I [] e → D'.nx e)
    (step : ∀ d rest e, I (d :: rest) e → ∀ K : Env → Prop, (∀ e', I rest e' → K e') → g d e fun e1 => b { D' with nx := K, ct := K, bk := D'.nx } e1) : WL g b D' ds env := by
  rw [WL_eq]
  induction ds generalizing env with
  | nil => exact fin env h0
  | cons d ds ih => exact step d ds env h0 _ fun e' he => ih he
/-- counted: I by how many are done -/
theorem for_nat {g : GT} {b : STt} {D' : EndsD} {ds : List D} {env : Env} (I : Nat → Env → Prop) (h0 : I 0 env) (fin : ∀ e, I ds.length e → D'.nx e)
    (step : ∀ i d e, ds[i]? = some d → I i e → ∀ K : Env → Prop, (∀ e', I (i + 1) e' → K e') → g d e fun e1 => b { D' with nx := K, ct := K, bk := D'.nx } e1) : WL g b D' ds env := by
  refine for_inv (fun rest e => rest.length ≤ ds.length ∧ ds.drop (ds.length - rest.length) = rest ∧ I (ds.length - rest.length) e) ⟨Nat.le_refl _, by simp, by simpa using h0⟩ (fun e h => fin e (by simpa using h.2.2)) fun d rest e ⟨hl, hd, hi⟩ K hK => ?_
  simp only [List.length_cons] at hl hd hi
  have e1 : ds.length - rest.length = ds.length - (rest.length + 1) + 1 := by omega
  refine step _ d e ?_ hi K fun e' he => hK e' ⟨by omega, ?_, by rw [e1]; exact he⟩
  · have := congrArg (fun l => l[0]?) hd
    simpa using this
  · rw [e1, ← List.drop_drop, hd]
    rfl
theorem lc_inv {g : GT} {tt : TTt} {te : ET} {is : List Nat} {Q : List D → Env → Prop} {ds : List D} {env : Env} (I : List D → List D → Env → Prop) (h0 : I ds [] env) (fin : ∀ acc e, I [] acc e → Q acc e)
    (step : ∀ d rest acc e, I (d :: rest) acc e → ∀ K : List D → Env → Prop, (∀ acc' e', I rest acc' e' → K acc' e') → g d e fun e1 => tt e1 (fun b e2 => if b = true then te e2 (fun rv e3 => ∃ dv e4, fz e3 rv = some (dv, e4) ∧ acc.length < sizeLine ∧ K (acc ++ [dv]) (wipeE e4 is)) noX else K acc (wipeE e2 is)) noX) : WC g tt te is Q ds env := by
  rw [WC_eq]
  generalize ([] : List D) = acc at h0
  induction ds generalizing acc env with
  | nil => exact fin _ env h0
  | cons d ds ih => exact step d ds acc env h0 _ fun acc' e' he => ih _ he
/-- [f d for d in ds if p d], the environment as it was -/
theorem lc_filter {g : GT} {tt : TTt} {te : ET} {is : List Nat} {Q : List D → Env → Prop} {ds : List D} {E : Env} (p : D → Bool) (f : D → D) (hl : ds.length ≤ sizeLine) (fin : Q ((ds.filter p).map f) E)
    (step : ∀ d ∈ ds, ∀ (K : D → Env → Prop) (N : Env → Prop), (p d = true → K (f d) E) → (p d = false → N E) → g d E fun e1 => tt e1 (fun b e2 => if b = true then te e2 (fun rv e3 => ∃ dv e4, fz e3 rv = some (dv, e4) ∧ K dv (wipeE e4 is)) noX else N (wipeE e2 is)) noX) : WC g tt te is Q ds E := by
  have key : ∀ (ds : List D) (acc : List D), acc.length + ds.length ≤ sizeLine → (∀ d ∈ ds, ∀ (K : D → Env → Prop) (N : Env → Prop), (p d = true → K (f d) E) → (p d = false → N E) → g d E fun e1 => tt e1 (fun b e2 => if b = true then te e2 (fun rv e3 => ∃ dv e4, fz e3 rv = some (dv, e4) ∧ K dv (wipeE e4 is)) noX else N (wipeE e2 is)) noX) →
      Q (acc ++ (ds.filter p).map f) E → wLc g tt te is Q ds acc E := by
    intro ds
    induction ds with
    | nil =>
      intro acc _ _ q
      show Q acc E
      simpa using q
    | cons d ds ih =>
      intro acc hz st q
      rw [List.length_cons] at hz
      refine st d (List.mem_cons_self ..) (fun dv e => acc.length < sizeLine ∧ wLc g tt te is Q ds (acc ++ [dv]) e) (wLc g tt te is Q ds acc) (fun hp => ⟨by omega, ?_⟩) fun hp => ?_
      · refine ih _ (by rw [List.length_append, List.length_singleton]; omega) (fun d hd => st d (List.mem_cons_of_mem _ hd)) ?_
        rw [List.filter_cons_of_pos hp] at q
        simpa using q
      · refine ih _ (by omega) (fun d hd => st d (List.mem_cons_of_mem _ hd)) ?_
        rw [List.filter_cons_of_neg (by rw [hp]; decide)] at q
        exact q
  rw [WC_eq]
  exact key ds [] (by simpa using hl) step (by simpa using fin)
/-- [f d for d in ds], the environment as it was -/
theorem lc_map {g : GT} {te : ET} {is : List Nat} {Q : List D → Env → Prop} {ds : List D} {E : Env} (f : D → D) (hl : ds.length ≤ sizeLine) (fin : Q (ds.map f) E)
    (step : ∀ d ∈ ds, ∀ K : D → Env → Prop, K (f d) E → g d E fun e1 => te e1 (fun rv e3 => ∃ dv e4, fz e3 rv = some (dv, e4) ∧ K dv (wipeE e4 is)) noX) : WC g tYesD te is Q ds E := by
  refine lc_filter (fun _ => true) f hl (by rw [List.filter_eq_self.mpr (fun _ _ => rfl)]; exact fin) fun d hd K N h1 h2 => ?_
  exact step d hd K (h1 rfl)
/-- [f d for d in ds], the environment by I -/
theorem lc_mapI {g : GT} {te : ET} {is : List Nat} {Q : List D → Env → Prop} {ds : List D} {env : Env} (f : D → D) (I : Env → Prop) (hl : ds.length ≤ sizeLine) (h0 : I env) (fin : ∀ e, I e → Q (ds.map f) e)
    (step : ∀ d ∈ ds, ∀ e, I e → ∀ K : D → Env → Prop, (∀ e', I e' → K (f d) e') → g d e fun e1 => te e1 (fun rv e3 => ∃ dv e4, fz e3 rv = some (dv, e4) ∧ K dv (wipeE e4 is)) noX) : WC g tYesD te is Q ds env := by
  refine lc_inv (fun rest acc e => acc.length + rest.length = ds.length ∧ acc ++ rest.map f = ds.map f ∧ (∀ d ∈ rest, d ∈ ds) ∧ I e) ⟨by simp, by simp, fun d h => h, h0⟩ (fun acc e ⟨_, ha, _, hi⟩ => ?_) fun d rest acc e ⟨hz, ha, hm, hi⟩ K hK => ?_
  · rw [List.map_nil, List.append_nil] at ha
    rw [ha]
    exact fin e hi
  · rw [List.length_cons] at hz
    refine step d (hm d (List.mem_cons_self ..)) e hi (fun dv e => acc.length < sizeLine ∧ K (acc ++ [dv]) e) fun e' he' => ⟨by omega, hK _ _ ⟨by rw [List.length_append, List.length_singleton]; omega, ?_, fun d hd => hm d (List.mem_cons_of_mem _ hd), he'⟩⟩
    rw [List.append_assoc]
    exact ha
theorem ite_td {p : Prop} [Decidable p] {A B : Prop} (h : p) (a : A) : if decide p = true then A else B := ite_t (decide_eq_true h) a
theorem ite_fd {p : Prop} [Decidable p] {A B : Prop} (h : ¬ p) (b : B) : if decide p = true then A else B := ite_f (decide_eq_false h) b
theorem ite_fn {p : Prop} [Decidable p] {A B : Prop} (h : p) (b : B) : if (!decide p) = true then A else B := ite_f (by rw [decide_eq_true h]; rfl) b
theorem ite_i {p : Prop} [Decidable p] {A B : Prop} (h1 : p → A) (h2 : ¬ p → B) : if (false ^^ decide p) = true then A else B := by
  by_cases h : p
  · exact ite_t (by rw [decide_eq_true h]; rfl) (h1 h)
  · exact ite_f (by rw [decide_eq_false h]; decide) (h2 h)
theorem ite_ni {p : Prop} [Decidable p] {A B : Prop} (h1 : ¬ p → A) (h2 : p → B) : if (true ^^ decide p) = true then A else B := by
  by_cases h : p
  · exact ite_f (by rw [decide_eq_true h]; decide) (h2 h)
  · exact ite_t (by rw [decide_eq_false h]; rfl) (h1 h)
theorem ite_it {p : Prop} [Decidable p] {A B : Prop} (h : p) (a : A) : if (false ^^ decide p) = true then A else B := ite_i (fun _ => a) fun z => absurd h z
theorem ite_if {p : Prop} [Decidable p] {A B : Prop} (h : ¬ p) (b : B) : if (false ^^ decide p) = true then A else B := ite_i (fun z => absurd z h) fun _ => b
theorem set_i {e e' : Env} {i : Nat} {s : Slot} (h : e.set i s = e') : e.set i s = e' := h
theorem asg_i {e e' : Env} {i : Nat} {r : RV} (h : asgN i r e = some e') : asgN i r e = some e' := h
theorem fz_i {e : Env} {r : RV} {p : D × Env} (h : fz e r = some p) : fz e r = some p := h
theorem fzs_i {e : Env} {r : List RV} {p : List D × Env} (h : fzs e r = some p) : fzs e r = some p := h
theorem args_i {e : Env} {ms : List Bool} {r : List RV} {p : List D × Env} (h : argsE ms e r = some p) : argsE ms e r = some p := h
theorem okd_i {n : Nat} {d : D} (h : D.okD n d = true) : D.okD n d = true := h
theorem okl_i {n : Nat} {d : List D} (h : D.okL n d = true) : D.okL n d = true := h
theorem ok_int {n : Nat} {i : Int} : D.okD n (.int i) = true := by cases n <;> rfl
theorem ok_str {n : Nat} {x : Str} (h : PyData.strOk x = true) : D.okD n (.str x) = true := by cases n <;> simpa only [D.okD] using h
theorem ok_tup {n : Nat} {ds : List D} (h : D.okL n ds = true) : D.okD (n + 1) (.tup ds) = true := by simpa only [D.okD] using h
theorem ok_lst {n : Nat} {ds : List D} (h : D.okL n ds = true) : D.okD (n + 1) (.lst ds) = true := by simpa only [D.okD] using h
theorem okL_nil {n : Nat} : D.okL n [] = true := rfl
theorem okL_cons {n : Nat} {d : D} {ds : List D} (h : D.okD n d = true) (k : D.okL n ds = true) : D.okL n (d :: ds) = true := by simp only [D.okL, h, k, Bool.and_self]
theorem okL_all {n : Nat} : ∀ {ds : List D}, (∀ d ∈ ds, D.okD n d = true) → D.okL n ds = true
  | [], _ => rfl
  | d :: ds, h => okL_cons (h d (List.mem_cons_self ..)) (okL_all fun e he => h e (List.mem_cons_of_mem _ he))
theorem okL_map {α : Type} {n : Nat} {f : α → D} {xs : List α} (h : ∀ x, D.okD n (f x) = true) : D.okL n (xs.map f) = true := okL_all fun d hd => by
  obtain ⟨x, _, rfl⟩ := List.mem_map.mp hd
  exact h x
theorem mem_rg {lo : Int} {n : Nat} {d : D} (h : d ∈ rgD lo n) : ∃ i : Nat, i < n ∧ d = .int (lo + i) := by
  unfold rgD at h
  obtain ⟨i, hi, rfl⟩ := List.mem_map.mp h
  exact ⟨i, List.mem_range.mp hi, rfl⟩
theorem rg_get {lo : Int} {n i : Nat} {d : D} (h : (rgD lo n)[i]? = some d) : i < n ∧ d = .int (lo + i) := by
  unfold rgD at h
  rw [List.getElem?_map] at h
  by_cases hi : i < n
  · rw [List.getElem?_range hi] at h
    exact ⟨hi, (Option.some.inj h).symm⟩
  · rw [List.getElem?_eq_none (by simpa using hi)] at h
    cases h
theorem rg_len (lo : Int) (n : Nat) : (rgD lo n).length = n := by unfold rgD; simp
theorem atI_of {α : Type} {xs : List α} {i : Int} {j : Nat} {x : α} (h : i = j) (hx : xs[j]? = some x) : atI xs i = some x := by
  subst h
  have hl : j < xs.length := (List.getElem?_eq_some_iff.mp hx).1
  unfold atI ixN
  rw [if_pos (by omega), if_pos (by omega)]
  simpa using hx
theorem atI_get {α : Type} {xs : List α} {i : Int} (h0 : 0 ≤ i) (h1 : i < xs.length) : ∃ x, atI xs i = some x ∧ xs[i.toNat]? = some x := by
  have : i.toNat < xs.length := by omega
  refine ⟨xs[i.toNat], ?_, List.getElem?_eq_getElem this⟩
  exact atI_of (j := i.toNat) (by omega) (List.getElem?_eq_getElem this)
theorem atI_map {α : Type} {xs : List α} {f : α → D} {i : Int} {x : α} (h : atI xs i = some x) : atI (xs.map f) i = some (f x) := by
  unfold atI at h ⊢
  rw [List.length_map]
  cases e : ixN xs.length i with
  | none => rw [e] at h; cases h
  | some j =>
    rw [e] at h
    simp only [Option.bind_some] at h ⊢
    rw [List.getElem?_map, h]
    rfl
theorem len_le {n : Nat} (h : Nat.ble n 16777216 = true) : n ≤ sizeLine := by
  have e : sizeLine = 16777216 := by decide
  rw [e]
  exact Nat.le_of_ble_eq_true h
theorem div_k {i j : Int} (h1 : 0 < j) (h2 : j < 1073741824) : CDivW i j := wide_div (b := 30) h1 (by omega) (by decide) (by decide)
theorem opDiv_k {i j : Int} {Q : RV → Prop} (h1 : 0 < j) (h2 : j < 1073741824) (q : Q (.val (.int (i / j)))) : opDiv (.int i) (.int j) Q := ⟨div_k h1 h2, q⟩
theorem opMul_r {i j : Int} {Q : RV → Prop} (h1 : -18446744073709551616 < j) (h2 : j < 18446744073709551616) (q : Q (.val (.int (i * j)))) : opMul (.int i) (.int j) Q := ⟨mul_r h1 h2, q⟩
theorem opMod_k {i j : Int} {Q : RV → Prop} (h1 : 0 < j) (q : Q (.val (.int (i % j)))) : opMod (.int i) (.int j) Q := ⟨h1, q⟩
theorem int_un {a b : Int} (h : a = b) : (D.int a).un = (D.int b).un := by rw [h]
theorem int_nun {a b : Int} (h : a ≠ b) : ¬ (D.int a).un = (D.int b).un := fun e => h (D.int.inj e)
end VS

/-! VN: the mathematics of ways and movements -/
namespace VN
open PySem VS
inductive Way where
  | stay | turn | half | back | side | flip | cross | other
  deriving DecidableEq
def Way.str : Way → Str
  | .stay => "stay" | .turn => "turn" | .half => "half" | .back => "back" | .side => "side" | .flip => "flip" | .cross => "cross" | .other => "other"
def ways : List Way := [.stay, .turn, .half, .back, .side, .flip, .cross, .other]
/-- a way's place, down and right -/
def gR : Way → Int → Int → Int
  | .stay, r, _ => r | .turn, _, c => c | .half, r, _ => -r | .back, _, c => -c | .side, r, _ => r | .flip, r, _ => -r | .cross, _, c => c | .other, _, c => -c
def gC : Way → Int → Int → Int
  | .stay, _, c => c | .turn, r, _ => -r | .half, _, c => -c | .back, r, _ => r | .side, _, c => -c | .flip, _, c => c | .cross, r, _ => r | .other, r, _ => -r
abbrev dPl (r c : Int) : D := .tup [.int r, .int c]
abbrev dMv (w : Way) (r c : Int) : D := .tup [.str w.str, .int r, .int c]
def lR (n : Int) (w : Way) (d y x : Int) : Int := (gR w y x + d) % n
def lC (n : Int) (w : Way) (d y x : Int) : Int := (gC w y x + d) % n
def wayAt (i : Int) : Way := ways.getD i.toNat .stay
def Way.ix : Way → Nat
  | .stay => 0 | .turn => 1 | .half => 2 | .back => 3 | .side => 4 | .flip => 5 | .cross => 6 | .other => 7
def numF (cell : Int) (at' : Int) : Int := cell % 1000000000000000000 * (2 * at' + 3) + at' * at'
def nWay (n : Int) : Way := wayAt (n * 48271 % 1000003 % 8)
def nDown (s n : Int) : Int := n * 39373 % 999953 % s
def nRight (s n : Int) : Int := n * 62089911 % 999931 % s
theorem emod_sh {a b k n : Int} (h : a = b + n * k) : a % n = b % n := by
  subst h
  exact Int.add_mul_emod_self_left ..
/-! signs -/
def sgA : Way → Int | .stay => 1 | .turn => 0 | .half => -1 | .back => 0 | .side => 1 | .flip => -1 | .cross => 0 | .other => 0
def sgB : Way → Int | .stay => 0 | .turn => 1 | .half => 0 | .back => -1 | .side => 0 | .flip => 0 | .cross => 1 | .other => -1
def sgC : Way → Int | .stay => 0 | .turn => -1 | .half => 0 | .back => 1 | .side => 0 | .flip => 0 | .cross => 1 | .other => -1
def sgD : Way → Int | .stay => 1 | .turn => 0 | .half => -1 | .back => 0 | .side => -1 | .flip => 1 | .cross => 0 | .other => 0
def sgK (w : Way) : D := .ktup [.int (sgA w), .int (sgB w), .int (sgC w), .int (sgD w)]
def signsL : List (D × D) := ways.map fun w => (.str w.str, sgK w)
theorem sg_get {w : Way} : dget signsL (.str w.str) = some (.ktup [.int (sgA w), .int (sgB w), .int (sgC w), .int (sgD w)]) := by cases w <;> rfl
theorem sg_ok {w : Way} : (-18446744073709551616 < sgA w ∧ sgA w < 18446744073709551616) ∧ (-18446744073709551616 < sgB w ∧ sgB w < 18446744073709551616) ∧ (-18446744073709551616 < sgC w ∧ sgC w < 18446744073709551616) ∧ (-18446744073709551616 < sgD w ∧ sgD w < 18446744073709551616) := by
  cases w <;> decide
theorem mul_sA {w : Way} {j : Int} : mulOk (sgA w) j := mul_l sg_ok.1.1 sg_ok.1.2
theorem mul_sB {w : Way} {j : Int} : mulOk (sgB w) j := mul_l sg_ok.2.1.1 sg_ok.2.1.2
theorem mul_sC {w : Way} {j : Int} : mulOk (sgC w) j := mul_l sg_ok.2.2.1.1 sg_ok.2.2.1.2
theorem mul_sD {w : Way} {j : Int} : mulOk (sgD w) j := mul_l sg_ok.2.2.2.1 sg_ok.2.2.2.2
def mulW : Way → Way → Way := fun a b =>
  ((ways.find? fun w => decide (gR w 1 0 = gR b (gR a 1 0) (gC a 1 0)) && decide (gC w 1 0 = gC b (gR a 1 0) (gC a 1 0)) && decide (gR w 0 1 = gR b (gR a 0 1) (gC a 0 1)) && decide (gC w 0 1 = gC b (gR a 0 1) (gC a 0 1))).getD .stay)
def invW : Way → Way | .turn => .back | .back => .turn | w => w
theorem g_mul (a b : Way) (y x : Int) : gR b (gR a y x) (gC a y x) = gR (mulW a b) y x ∧ gC b (gR a y x) (gC a y x) = gC (mulW a b) y x := by
  have h : mulW a b = mulW a b := rfl
  cases a <;> cases b <;> exact ⟨by show _ = gR _ y x; simp [gR, gC, mulW, ways], by show _ = gC _ y x; simp [gR, gC, mulW, ways]⟩
theorem mulW_assoc (a b c : Way) : mulW (mulW a b) c = mulW a (mulW b c) := by cases a <;> cases b <;> cases c <;> decide +kernel
theorem mulW_inv (a : Way) : mulW a (invW a) = .stay ∧ mulW (invW a) a = .stay ∧ invW (invW a) = a := by cases a <;> decide +kernel
theorem mulW_stay (a : Way) : mulW a .stay = a ∧ mulW .stay a = a := by cases a <;> decide +kernel
theorem gR_lin (w : Way) (a b c d : Int) : gR w (a + b) (c + d) = gR w a c + gR w b d := by cases w <;> simp only [gR] <;> omega
theorem gC_lin (w : Way) (a b c d : Int) : gC w (a + b) (c + d) = gC w a c + gC w b d := by cases w <;> simp only [gC] <;> omega
theorem emod_as (y n : Int) : y % n = y - n * (y / n) := Int.emod_def y n
theorem gR_mod (w : Way) (n y x d : Int) : (gR w (y % n) (x % n) + d) % n = (gR w y x + d) % n := by
  have hy := emod_as y n
  have hx := emod_as x n
  cases w <;> simp only [gR] <;> first
    | exact emod_sh (k := -(y / n)) (by rw [hy, Int.mul_neg]; generalize n * (y / n) = t; omega)
    | exact emod_sh (k := (y / n)) (by rw [hy]; generalize n * (y / n) = t; omega)
    | exact emod_sh (k := -(x / n)) (by rw [hx, Int.mul_neg]; generalize n * (x / n) = t; omega)
    | exact emod_sh (k := (x / n)) (by rw [hx]; generalize n * (x / n) = t; omega)
theorem gC_mod (w : Way) (n y x d : Int) : (gC w (y % n) (x % n) + d) % n = (gC w y x + d) % n := by
  have hy := emod_as y n
  have hx := emod_as x n
  cases w <;> simp only [gC] <;> first
    | exact emod_sh (k := -(y / n)) (by rw [hy, Int.mul_neg]; generalize n * (y / n) = t; omega)
    | exact emod_sh (k := (y / n)) (by rw [hy]; generalize n * (y / n) = t; omega)
    | exact emod_sh (k := -(x / n)) (by rw [hx, Int.mul_neg]; generalize n * (x / n) = t; omega)
    | exact emod_sh (k := (x / n)) (by rw [hx]; generalize n * (x / n) = t; omega)
/-! movements -/
structure Mv where
  w : Way
  d : Int
  r : Int
  deriving DecidableEq
abbrev dM (m : Mv) : D := dMv m.w m.d m.r
/-- of a side -/
def Mv.ok (n : Int) (m : Mv) : Prop := 0 ≤ m.d ∧ m.d < n ∧ 0 ≤ m.r ∧ m.r < n
def thn (n : Int) (a b : Mv) : Mv := ⟨mulW a.w b.w, lR n b.w b.d a.d a.r, lC n b.w b.r a.d a.r⟩
def inv (n : Int) (a : Mv) : Mv := ⟨invW a.w, -gR (invW a.w) a.d a.r % n, -gC (invW a.w) a.d a.r % n⟩
def stayM : Mv := ⟨.stay, 0, 0⟩
theorem lR_ok {n : Int} (h : 0 < n) (w : Way) (d y x : Int) : 0 ≤ lR n w d y x ∧ lR n w d y x < n := ⟨Int.emod_nonneg _ (by omega), Int.emod_lt_of_pos _ h⟩
theorem lC_ok {n : Int} (h : 0 < n) (w : Way) (d y x : Int) : 0 ≤ lC n w d y x ∧ lC n w d y x < n := ⟨Int.emod_nonneg _ (by omega), Int.emod_lt_of_pos _ h⟩
theorem thn_ok {n : Int} (h : 0 < n) (a b : Mv) : (thn n a b).ok n := ⟨(lR_ok h ..).1, (lR_ok h ..).2, (lC_ok h ..).1, (lC_ok h ..).2⟩
theorem inv_ok {n : Int} (h : 0 < n) (a : Mv) : (inv n a).ok n := ⟨Int.emod_nonneg _ (by omega), Int.emod_lt_of_pos _ h, Int.emod_nonneg _ (by omega), Int.emod_lt_of_pos _ h⟩
theorem stayM_ok {n : Int} (h : 0 < n) : stayM.ok n := ⟨Int.le_refl _, h, Int.le_refl _, h⟩
/-- then leads as both do -/
theorem lR_thn (n : Int) (a b : Mv) (y x : Int) : lR n (thn n a b).w (thn n a b).d y x = lR n b.w b.d (lR n a.w a.d y x) (lC n a.w a.r y x) := by
  show (gR (mulW a.w b.w) y x + (gR b.w a.d a.r + b.d) % n) % n = (gR b.w ((gR a.w y x + a.d) % n) ((gC a.w y x + a.r) % n) + b.d) % n
  rw [gR_mod, gR_lin, (g_mul a.w b.w y x).1, Int.add_emod_emod, Int.add_assoc]
theorem lC_thn (n : Int) (a b : Mv) (y x : Int) : lC n (thn n a b).w (thn n a b).r y x = lC n b.w b.r (lR n a.w a.d y x) (lC n a.w a.r y x) := by
  show (gC (mulW a.w b.w) y x + (gC b.w a.d a.r + b.r) % n) % n = (gC b.w ((gR a.w y x + a.d) % n) ((gC a.w y x + a.r) % n) + b.r) % n
  rw [gC_mod, gC_lin, (g_mul a.w b.w y x).2, Int.add_emod_emod, Int.add_assoc]
theorem thn_assoc (n : Int) (a b c : Mv) : thn n (thn n a b) c = thn n a (thn n b c) := by
  have h1 := lR_thn n b c a.d a.r
  have h2 := lC_thn n b c a.d a.r
  show (⟨_, _, _⟩ : Mv) = ⟨_, _, _⟩
  rw [Mv.mk.injEq]
  exact ⟨mulW_assoc _ _ _, h1.symm, h2.symm⟩
theorem gR_neg (w : Way) (a b : Int) : gR w (-a) (-b) = -gR w a b := by cases w <;> simp only [gR]
theorem gC_neg (w : Way) (a b : Int) : gC w (-a) (-b) = -gC w a b := by cases w <;> simp only [gC]
theorem g_stay (y x : Int) : gR .stay y x = y ∧ gC .stay y x = x := ⟨rfl, rfl⟩
theorem thn_inv {n : Int} (hn : 0 < n) (a : Mv) : thn n a (inv n a) = stayM := by
  show (⟨_, _, _⟩ : Mv) = ⟨_, _, _⟩
  rw [Mv.mk.injEq]
  refine ⟨(mulW_inv a.w).1, ?_, ?_⟩
  · show (gR (invW a.w) a.d a.r + -gR (invW a.w) a.d a.r % n) % n = 0
    rw [Int.add_emod_emod, Int.add_right_neg, Int.zero_emod]
  · show (gC (invW a.w) a.d a.r + -gC (invW a.w) a.d a.r % n) % n = 0
    rw [Int.add_emod_emod, Int.add_right_neg, Int.zero_emod]
theorem inv_thn {n : Int} (hn : 0 < n) (a : Mv) (ha : a.ok n) : thn n (inv n a) a = stayM := by
  show (⟨_, _, _⟩ : Mv) = ⟨_, _, _⟩
  rw [Mv.mk.injEq]
  have e := g_mul (invW a.w) a.w a.d a.r
  rw [(mulW_inv a.w).2.1] at e
  refine ⟨(mulW_inv a.w).2.1, ?_, ?_⟩
  · show (gR a.w (-gR (invW a.w) a.d a.r % n) (-gC (invW a.w) a.d a.r % n) + a.d) % n = 0
    rw [gR_mod, gR_neg, e.1, (g_stay _ _).1, Int.add_left_neg, Int.zero_emod]
  · show (gC a.w (-gR (invW a.w) a.d a.r % n) (-gC (invW a.w) a.d a.r % n) + a.r) % n = 0
    rw [gC_mod, gC_neg, e.2, (g_stay _ _).2, Int.add_left_neg, Int.zero_emod]
theorem thn_stay {n : Int} (a : Mv) (ha : a.ok n) : thn n a stayM = a := by
  obtain ⟨h1, h2, h3, h4⟩ := ha
  cases a
  show (⟨_, _, _⟩ : Mv) = ⟨_, _, _⟩
  rw [Mv.mk.injEq]
  refine ⟨(mulW_stay _).1, ?_, ?_⟩
  · show (_ + 0) % n = _
    rw [Int.add_zero]; exact Int.emod_eq_of_lt h1 h2
  · show (_ + 0) % n = _
    rw [Int.add_zero]; exact Int.emod_eq_of_lt h3 h4
theorem g_zero (w : Way) : gR w 0 0 = 0 ∧ gC w 0 0 = 0 := by cases w <;> exact ⟨rfl, rfl⟩
theorem stay_thn {n : Int} (a : Mv) (ha : a.ok n) : thn n stayM a = a := by
  obtain ⟨h1, h2, h3, h4⟩ := ha
  cases a
  show (⟨_, _, _⟩ : Mv) = ⟨_, _, _⟩
  rw [Mv.mk.injEq]
  refine ⟨(mulW_stay _).2, ?_, ?_⟩
  · show (gR _ 0 0 + _) % n = _
    rw [(g_zero _).1, Int.zero_add]; exact Int.emod_eq_of_lt h1 h2
  · show (gC _ 0 0 + _) % n = _
    rw [(g_zero _).2, Int.zero_add]; exact Int.emod_eq_of_lt h3 h4
theorem inv_uniq {n : Int} (hn : 0 < n) {a b : Mv} (ha : a.ok n) (hb : b.ok n) (h : thn n a b = stayM) : b = inv n a := by
  have : thn n (inv n a) (thn n a b) = thn n (inv n a) stayM := by rw [h]
  rw [← thn_assoc, inv_thn hn a ha, stay_thn b hb, thn_stay _ (inv_ok hn a)] at this
  exact this
theorem Way.str_inj {a b : Way} (h : a.str = b.str) : a = b := by
  cases a <;> cases b <;> first | rfl | exact absurd h (by decide +kernel)
theorem dM_inj {a b : Mv} (h : dM a = dM b) : a = b := by
  cases a; cases b
  simp only [dM, dMv, D.tup.injEq, List.cons.injEq, D.str.injEq, D.int.injEq] at h
  obtain ⟨h1, h2, h3, _⟩ := h
  rw [Way.str_inj h1, h2, h3]
def nMv (s n : Int) : Mv := ⟨nWay n, nDown s n, nRight s n⟩
theorem ok_w {n : Nat} {w : Way} : D.okD n (.str w.str) = true := ok_str (by cases w <;> decide +kernel)
theorem ok_M {n : Nat} {m : Mv} : D.okD (n + 1) (dM m) = true := ok_tup (okL_cons ok_w (okL_cons ok_int (okL_cons ok_int okL_nil)))
theorem gR_sg (w : Way) (r c : Int) : gR w r c = sgA w * r + sgB w * c := by cases w <;> simp [gR, sgA, sgB]
theorem gC_sg (w : Way) (r c : Int) : gC w r c = sgC w * r + sgD w * c := by cases w <;> simp [gC, sgC, sgD]
def Way.pick {α : Type} (a0 a1 a2 a3 a4 a5 a6 a7 : α) : Way → α
  | .stay => a0 | .turn => a1 | .half => a2 | .back => a3 | .side => a4 | .flip => a5 | .cross => a6 | .other => a7
end VN

/-! VO: powers of a movement -/
namespace VN
open PySem VS
def powM (n : Int) (m : Mv) : Nat → Mv
  | 0 => stayM
  | k + 1 => thn n (powM n m k) m
theorem powM_ok {n : Int} (hn : 0 < n) (m : Mv) : ∀ k, (powM n m k).ok n
  | 0 => stayM_ok hn
  | k + 1 => thn_ok hn _ _
theorem powM_add {n : Int} (hn : 0 < n) (m : Mv) (a : Nat) : ∀ b, powM n m (a + b) = thn n (powM n m a) (powM n m b)
  | 0 => (thn_stay _ (powM_ok hn m a)).symm
  | b + 1 => by
    show thn n (powM n m (a + b)) m = thn n (powM n m a) (thn n (powM n m b) m)
    rw [powM_add hn m a b, thn_assoc]
theorem powM_w {n : Int} (m : Mv) : (powM n m 4).w = .stay := by
  show mulW (mulW (mulW (mulW .stay m.w) m.w) m.w) m.w = .stay
  cases m.w <;> decide
theorem powM_4k {n : Int} (hn : 0 < n) (m : Mv) : ∀ k : Nat, powM n m (4 * k) = ⟨.stay, (k * (powM n m 4).d) % n, (k * (powM n m 4).r) % n⟩
  | 0 => by simp [powM, stayM]
  | k + 1 => by
    rw [show 4 * (k + 1) = 4 * k + 4 by omega, powM_add hn m, powM_4k hn m k]
    have hw := powM_w (n := n) m
    generalize powM n m 4 = s at *
    obtain ⟨w, d, r⟩ := s
    simp only at hw
    subst hw
    show (⟨mulW .stay .stay, (_ % n + d) % n, (_ % n + r) % n⟩ : Mv) = _
    rw [Mv.mk.injEq]
    refine ⟨by decide, ?_, ?_⟩
    · rw [Int.emod_add_emod]; congr 1; push_cast; rw [Int.add_mul, Int.one_mul]
    · rw [Int.emod_add_emod]; congr 1; push_cast; rw [Int.add_mul, Int.one_mul]
theorem powM_4n {n : Int} (hn : 0 < n) (m : Mv) : powM n m (4 * n.toNat) = stayM := by
  rw [powM_4k hn, show ((n.toNat : Nat) : Int) = n by omega]
  simp [stayM]
/-- the order, less one -/
def ordK (n : Int) (m : Mv) : Nat := ((List.range 100).find? fun k => decide (powM n m (k + 1) = stayM)).getD 0
theorem powM_1 {n : Int} (m : Mv) (ok : m.ok n) : powM n m 1 = m := stay_thn m ok
theorem mv_one {n a b : Int} {w : Way} : [D.int n, D.tup [.str w.str, .int a, .int b]] = [.int n, dM ⟨w, a, b⟩] := rfl
end VN

/-! VT: the table of ways -/
namespace VN
open PySem VS
abbrev wayD : List D := [D.str "stay", .str "turn", .str "half", .str "back", .str "side", .str "flip", .str "cross", .str "other"]
def wayS (x : Str) : Way := (ways.find? fun w => decide (w.str = x)).getD .stay
theorem wayS_str (w : Way) : wayS w.str = w := by cases w <;> decide +kernel
def mulD : D → D → D
  | .str x, .str y => .str (mulW (wayS x) (wayS y)).str
  | _, _ => .non
def tabRow (d : D) (j : Nat) (acc : List (D × D)) : List (D × D) := (wayD.take j).foldl (fun acc e => dput acc (.tup [d, e]) (mulD d e)) acc
def tabTo (i : Nat) : List (D × D) := (wayD.take i).foldl (fun acc d => tabRow d 8 acc) []
def tabD : List (D × D) := tabTo 8
end VN

/-! VM: all movements, in order; sorting them -/
namespace VN
open PySem VS PySem.W
def Way.rk : Way → Nat | .back => 0 | .cross => 1 | .flip => 2 | .half => 3 | .other => 4 | .side => 5 | .stay => 6 | .turn => 7
def sWays : List Way := [.back, .cross, .flip, .half, .other, .side, .stay, .turn]
def leM (a b : Mv) : Prop := a.w.rk < b.w.rk ∨ (a.w = b.w ∧ (a.d < b.d ∨ (a.d = b.d ∧ a.r ≤ b.r)))
instance (a b : Mv) : Decidable (leM a b) := by unfold leM; infer_instance
theorem alike_M (a b : Mv) : alike (dM a).toPy (dM b).toPy = true := by simp [D.toPy, D.toPyL, alike, alikeAll]
/-- the movements sorted -/
def sortM (L : List Mv) : List Mv := L.mergeSort fun a b => decide (leM a b)
/-! all of a side -/
def rowM (w : Way) (d : Int) (n : Nat) : List Mv := (List.range n).map fun r => ⟨w, d, (r : Nat)⟩
def ofW (n : Nat) (w : Way) : List Mv := (List.range n).flatMap fun d => rowM w (d : Nat) n
def allOf (ws : List Way) (n : Nat) : List Mv := ws.flatMap (ofW n)
def allM (n : Nat) : List Mv := allOf sWays n
theorem mem_ofW {n : Nat} {w : Way} {m : Mv} : m ∈ ofW n w ↔ m.w = w ∧ m.ok n := by
  unfold ofW rowM Mv.ok
  simp only [List.mem_flatMap, List.mem_map, List.mem_range]
  constructor
  · rintro ⟨d, hd, r, hr, rfl⟩
    refine ⟨rfl, ?_, ?_, ?_, ?_⟩ <;> simp only <;> omega
  · rintro ⟨rfl, h1, h2, h3, h4⟩
    obtain ⟨w, d, r⟩ := m
    simp only at *
    refine ⟨d.toNat, by omega, r.toNat, by omega, ?_⟩
    rw [Mv.mk.injEq]
    refine ⟨rfl, ?_, ?_⟩ <;> omega
theorem mem_allOf {ws : List Way} {n : Nat} {m : Mv} : m ∈ allOf ws n ↔ m.w ∈ ws ∧ m.ok n := by
  unfold allOf
  simp only [List.mem_flatMap, mem_ofW]
  constructor
  · rintro ⟨w, hw, rfl, h⟩; exact ⟨hw, h⟩
  · rintro ⟨hw, h⟩; exact ⟨_, hw, rfl, h⟩
theorem mem_sWays (w : Way) : w ∈ sWays := by cases w <;> decide
theorem mem_allM {n : Nat} {m : Mv} : m ∈ allM n ↔ m.ok n := by rw [allM, mem_allOf]; simp [mem_sWays]
theorem ofW_len (n : Nat) (w : Way) : (ofW n w).length = n * n := by
  unfold ofW rowM
  rw [List.length_flatMap]
  simp only [List.length_map, List.length_range]
  have : ∀ (m : Nat), (List.map (fun _ => n) (List.range m)).sum = m * n := fun m => by
    induction m with
    | zero => simp
    | succ m ih => rw [List.range_succ, List.map_append, List.sum_append, ih]; simp [Nat.add_mul]
  exact this n
theorem allOf_len (ws : List Way) (n : Nat) : (allOf ws n).length = ws.length * (n * n) := by
  unfold allOf
  rw [List.length_flatMap]
  induction ws with
  | nil => simp
  | cons w ws ih => rw [List.map_cons, List.sum_cons, ih, ofW_len, List.length_cons, Nat.add_mul]; omega
theorem sort_WAYS : [D.str "stay", .str "turn", .str "half", .str "back", .str "side", .str "flip", .str "cross", .str "other"].mergeSort leD = [D.str "back", .str "cross", .str "flip", .str "half", .str "other", .str "side", .str "stay", .str "turn"] :=
  sortD_eq ⟨by decide +kernel, by decide +kernel⟩ (by decide +kernel) (by decide +kernel)
end VN
namespace VN
open PySem VS PySem.W
theorem ok_WAYS : sortOk [D.str "stay", .str "turn", .str "half", .str "back", .str "side", .str "flip", .str "cross", .str "other"] := ⟨by decide +kernel, by decide +kernel, .inr (by
  intro d hd
  simp only [List.map, D.toPy, List.mem_cons, List.not_mem_nil, or_false] at hd
  rcases hd with h | h | h | h | h | h | h | h <;> subst h <;> exact ⟨(fun e => by cases e), fun xs e => by cases e⟩)⟩
end VN
namespace VN
open PySem VS PySem.W
theorem sWays_get {i : Nat} {d : D} (h : [D.str "back", .str "cross", .str "flip", .str "half", .str "other", .str "side", .str "stay", .str "turn"][i]? = some d) : ∃ w : Way, sWays[i]? = some w ∧ d = .str w.str := by
  have hi : i < 8 := (List.getElem?_eq_some_iff.mp h).1
  have : i = 0 ∨ i = 1 ∨ i = 2 ∨ i = 3 ∨ i = 4 ∨ i = 5 ∨ i = 6 ∨ i = 7 := by omega
  rcases this with e | e | e | e | e | e | e | e <;> subst e <;> cases h <;> exact ⟨_, rfl, rfl⟩
theorem allOf_take {ws : List Way} {i n : Nat} {w : Way} (h : ws[i]? = some w) : allOf (ws.take (i + 1)) n = allOf (ws.take i) n ++ (List.range n).flatMap fun d => rowM w (d : Nat) n := by
  have : ws.take (i + 1) = ws.take i ++ [w] := by rw [List.take_add_one, h]; rfl
  rw [this]
  unfold allOf
  rw [List.flatMap_append]
  simp [ofW]
theorem rows_len (w : Way) (n j : Nat) : ((List.range j).flatMap fun d => rowM w (d : Nat) n).length = j * n := by
  rw [List.length_flatMap]
  simp only [rowM, List.length_map, List.length_range]
  induction j with
  | zero => simp
  | succ m ih => rw [List.range_succ, List.map_append, List.sum_append, ih]; simp [Nat.add_mul]
theorem rowM_succ (w : Way) (d : Int) (k : Nat) : rowM w d (k + 1) = rowM w d k ++ [⟨w, d, (k : Nat)⟩] := by
  unfold rowM
  rw [List.range_succ, List.map_append]
  rfl
end VN
namespace VN
open PySem VS PySem.W
end VN
namespace VN
open PySem VS PySem.W
theorem ways_get {i : Nat} {d : D} (h : wayD[i]? = some d) : ∃ w : Way, ways[i]? = some w ∧ d = .str w.str := by
  have hi : i < 8 := (List.getElem?_eq_some_iff.mp h).1
  have : i = 0 ∨ i = 1 ∨ i = 2 ∨ i = 3 ∨ i = 4 ∨ i = 5 ∨ i = 6 ∨ i = 7 := by omega
  rcases this with e | e | e | e | e | e | e | e <;> subst e <;> cases h <;> exact ⟨_, rfl, rfl⟩
end VN
namespace VN
open PySem VS PySem.W
end VN
namespace VN
theorem allM_len (n : Nat) : (allM n).length = 8 * (n * n) := allOf_len sWays n
end VN

/-! VC: carpets as functions of places -/
namespace VN
open PySem VS L2 TL
/-! dicts by values -/
theorem dget_put (kvs : List (D × D)) (k v k' : D) : dget (dput kvs k v) k' = if k' = k then some v else dget kvs k' := by
  unfold dput
  split
  · rename_i h
    induction kvs with
    | nil => simp at h
    | cons p r ih =>
      rw [List.map_cons, dget_cons, dget_cons]
      by_cases e : p.1 = k
      · simp only [e, if_true]
        by_cases e2 : k' = k
        · simp [e2]
        · have e3 : ¬ k = k' := fun z => e2 z.symm
          simp only [e2, e3, if_false]
          by_cases h2 : (r.any fun p => decide (p.1 = k)) = true
          · rw [ih h2, if_neg e2]
          · congr 1
            refine (List.map_congr_left (g := id) fun q hq => ?_).trans (List.map_id r)
            rw [if_neg fun z => h2 (List.any_eq_true.mpr ⟨q, hq, decide_eq_true z⟩)]; rfl
      · have h2 : (r.any fun p => decide (p.1 = k)) = true := by simpa [e] using h
        simp only [e, if_false]
        rw [ih h2]
        by_cases e4 : p.1 = k'
        · have : ¬ k' = k := fun z => e (e4.trans z)
          simp [e4, this]
        · simp [e4]
  · rename_i h
    induction kvs with
    | nil =>
      rw [List.nil_append, dget_cons]
      by_cases e : k' = k
      · simp [e]
      · have : ¬ k = k' := fun z => e z.symm
        simp [e, this]
    | cons p r ih =>
      have h1 : ¬ p.1 = k := fun z => h (by simp [z])
      have h2 : ¬ (r.any fun p => decide (p.1 = k)) = true := fun z => h (by simp at z ⊢; exact .inr z)
      rw [List.cons_append, dget_cons, dget_cons, ih h2]
      by_cases e4 : p.1 = k'
      · have : ¬ k' = k := fun z => h1 (e4.trans z)
        simp [e4, this]
      · simp [e4]
theorem dput_len (kvs : List (D × D)) (k v : D) : (dput kvs k v).length ≤ kvs.length + 1 := by
  unfold dput
  split
  · simp
  · simp
theorem sl_of {n : Nat} (h : n ≤ 1000000) : n < sizeLine := by
  have e : sizeLine = 16777216 := by decide
  omega
theorem sle_of {n : Nat} (h : n ≤ 1000000) : n ≤ sizeLine := Nat.le_of_lt (sl_of h)
theorem dPl_inj {a b c d : Int} (h : dPl a b = dPl c d) : a = c ∧ b = d := by
  simp only [dPl, D.tup.injEq, List.cons.injEq, D.int.injEq, and_true] at h
  exact h
/-! rows, carpets -/
abbrev Cp := Int → Int → Nat
def sgn (x : Nat) : D := .str ⟨#[x]⟩
def rowL (n : Nat) (g : Int → Nat) : List Nat := (List.range n).map fun c => g (c : Nat)
def rowS (n : Nat) (g : Int → Nat) : Str := ⟨(rowL n g).toArray⟩
def cpD (n : Nat) (f : Cp) : D := .tup ((List.range n).map fun r => .str (rowS n (f (r : Nat))))
theorem rowS_len (n : Nat) (g : Int → Nat) : (rowS n g).length = n := by
  show (rowL n g).toArray.size = n
  simp [rowL]
theorem rowL_get {n : Nat} {g : Int → Nat} {i : Int} (h0 : 0 ≤ i) (h1 : i < n) : atI (rowL n g) i = some (g i) := by
  refine atI_of (j := i.toNat) (by omega) ?_
  unfold rowL
  rw [List.getElem?_map, List.getElem?_range (by omega)]
  simp only [Option.map_some]
  rw [show ((i.toNat : Nat) : Int) = i by omega]
theorem idx_row {n : Nat} {g : Int → Nat} {i : Int} {Q : RV → Prop} (h0 : 0 ≤ i) (h1 : i < n) (hn : n ≤ 1000000) (q : Q (.val (sgn (g i)))) : opIdx (.str (rowS n g)) (.int i) Q :=
  ⟨by rw [rowS_len]; exact sle_of hn, _, by show atI (rowL n g).toArray.toList i = _; rw [List.toList_toArray]; exact rowL_get h0 h1, q⟩
theorem idx_cp {n : Nat} {f : Cp} {i : Int} {Q : RV → Prop} (h0 : 0 ≤ i) (h1 : i < n) (q : Q (.val (.str (rowS n (f i))))) : opIdx (cpD n f) (.int i) Q := by
  refine ⟨_, atI_of (j := i.toNat) (by omega) ?_, q⟩
  rw [List.getElem?_map, List.getElem?_range (by omega)]
  simp only [Option.map_some]
  rw [show ((i.toNat : Nat) : Int) = i by omega]
theorem len_cp {n : Nat} {f : Cp} {Q : RV → Prop} (q : Q (.val (.int n))) : opLen [cpD n f] Q := by
  show Q (.val (.int (((List.range n).map fun r => D.str (rowS n (f (r : Nat)))).length : Nat)))
  rw [List.length_map, List.length_range]
  exact q
def okG (g : Int → Nat) : Prop := ∀ c, g c < 1114112
def okC (f : Cp) : Prop := ∀ r, okG (f r)
theorem strOk_row {n : Nat} {g : Int → Nat} (h : okG g) : PyData.strOk (rowS n g) = true := by
  show (rowL n g).toArray.all (· < 0x110000) = true
  rw [List.all_toArray, List.all_eq_true]
  intro x hx
  unfold rowL at hx
  obtain ⟨c, _, rfl⟩ := List.mem_map.mp hx
  exact decide_eq_true (h _)
theorem ok_row {n k : Nat} {g : Int → Nat} (h : okG g) : D.okD k (.str (rowS n g)) = true := ok_str (strOk_row h)
theorem ok_cp {n k : Nat} {f : Cp} (h : okC f) : D.okD (k + 1) (cpD n f) = true := ok_tup (okL_map fun r => ok_row (h _))
theorem rowS_ext {n : Nat} {g h : Int → Nat} : rowS n g = rowS n h ↔ ∀ c : Int, 0 ≤ c → c < n → g c = h c := by
  constructor
  · intro e c h0 h1
    have e1 : rowL n g = rowL n h := by
      have := congrArg (fun s : Str => s.cps.toList) e
      simpa [rowS] using this
    have := rowL_get (g := g) h0 h1
    rw [e1, rowL_get h0 h1] at this
    exact (Option.some.inj this).symm
  · intro e
    unfold rowS rowL
    congr 2
    refine List.map_congr_left fun c hc => e _ (by omega) ?_
    have := List.mem_range.mp hc
    omega
theorem cp_ext {n : Nat} {f g : Cp} : cpD n f = cpD n g ↔ ∀ r c : Int, 0 ≤ r → r < n → 0 ≤ c → c < n → f r c = g r c := by
  constructor
  · intro e r c h0 h1 h2 h3
    unfold cpD at e
    have e := D.tup.inj e
    have := congrArg (fun l => l[r.toNat]?) e
    simp only [List.getElem?_map] at this
    rw [List.getElem?_range (by omega)] at this
    simp only [Option.map_some, Option.some.injEq, D.str.injEq] at this
    rw [show ((r.toNat : Nat) : Int) = r by omega] at this
    exact rowS_ext.mp this c h2 h3
  · intro e
    unfold cpD
    congr 1
    refine List.map_congr_left fun r hr => ?_
    have := List.mem_range.mp hr
    rw [rowS_ext.mpr fun c h0 h1 => e _ _ (by omega) (by omega) h0 h1]
/-! joining signs -/
theorem join_row {n : Nat} {g : Int → Nat} : Txt.join "" ((List.range n).map fun c => (⟨#[g (c : Nat)]⟩ : Str)) = rowS n g := by
  rw [join_eq]
  have key : ∀ l : List Nat, tl (Str.join "" (l.map fun x => (⟨#[x]⟩ : Str))) = l := fun l => by
    rw [tl_join]
    have e : tl "" = [] := by decide
    rw [e]
    induction l with
    | nil => rfl
    | cons x r ih =>
      cases r with
      | nil => rfl
      | cons y r =>
        show tl (⟨#[x]⟩ : Str) ++ ([] ++ joinL [] (((y :: r).map fun x => (⟨#[x]⟩ : Str)).map tl)) = _
        rw [ih]
        rfl
  have e2 : ((List.range n).map fun c => (⟨#[g (c : Nat)]⟩ : Str)) = (rowL n g).map fun x => (⟨#[x]⟩ : Str) := by
    unfold rowL
    rw [List.map_map]
    rfl
  rw [e2]
  have := key (rowL n g)
  have e3 : ∀ s : Str, s = ⟨(tl s).toArray⟩ := fun s => by cases s; simp [tl]
  rw [e3 (Str.join _ _), this]
  rfl
def sgnF (g : Int → Nat) : D → D
  | .int c => sgn (g c)
  | _ => .non
def rowF (n : Nat) (f : Cp) : D → D
  | .int r => .str (rowS n (f r))
  | _ => .non
theorem rowF_cp {n : Nat} {f : Cp} : D.tup ((rgD 0 n).map (rowF n f)) = cpD n f := by
  unfold rgD cpD
  rw [List.map_map]
  congr 1
  refine List.map_congr_left fun r _ => ?_
  show D.str (rowS n (f (0 + (r : Nat)))) = _
  rw [Int.zero_add]
theorem opJoin_row {n : Nat} {g : Int → Nat} {Q : RV → Prop} (hn : n ≤ 1000000) (q : Q (.val (.str (rowS n g)))) : opJoin (.str "") [.lst ((rgD 0 n).map (sgnF g))] Q := by
  refine ⟨(List.range n).map fun c => (⟨#[g (c : Nat)]⟩ : Str), ?_, ?_, by rw [join_row]; exact q⟩
  · unfold rgD
    rw [List.map_map, List.map_map]
    refine List.map_congr_left fun c _ => ?_
    show sgn (g (0 + (c : Nat))) = _
    rw [Int.zero_add]; rfl
  · have e1 : (List.map (fun x => x.length) ((List.range n).map fun c => (⟨#[g (c : Nat)]⟩ : Str))).sum = n := by
      rw [List.map_map]
      have : ∀ m : Nat, (List.map ((fun x : Str => x.length) ∘ fun c => (⟨#[g (c : Nat)]⟩ : Str)) (List.range m)).sum = m := fun m => by
        induction m with
        | zero => rfl
        | succ m ih => rw [List.range_succ, List.map_append, List.sum_append, ih]; rfl
      exact this n
    rw [e1, List.length_map, List.length_range]
    have : ("" : Str).length = 0 := by decide
    rw [this]
    omega
/-! growing a row sign by sign -/
theorem row_nil (g : Int → Nat) : rowS 0 g = "" := by
  have : ("" : Str) = ⟨#[]⟩ := by decide
  rw [this]; rfl
theorem row_app (k : Nat) (g : Int → Nat) : rowS k g ++ (⟨#[g (k : Nat)]⟩ : Str) = rowS (k + 1) g := by
  show (⟨_ ++ _⟩ : Str) = _
  unfold rowS rowL
  rw [List.range_succ, List.map_append]
  simp
theorem opAdd_row {k : Nat} {g : Int → Nat} {x : Nat} {Q : RV → Prop} (hx : x = g (k : Nat)) (hk : k ≤ 100000) (q : Q (.val (.str (rowS (k + 1) g)))) : opAdd (.str (rowS k g)) (sgn x) Q := by
  refine ⟨?_, ?_⟩
  · rw [rowS_len]; exact sle_of (by show k + 1 ≤ _; omega)
  · subst hx
    rw [row_app]; exact q
def updG (g : Int → Nat) (k : Int) (x : Nat) : Int → Nat := fun c => if c = k then x else g c
def updC (f : Cp) (k : Int) (g : Int → Nat) : Cp := fun r => if r = k then g else f r
theorem opAdd_upd {k : Nat} {g : Int → Nat} {x : Nat} {Q : RV → Prop} (hk : k ≤ 100000) (q : Q (.val (.str (rowS (k + 1) (updG g k x))))) : opAdd (.str (rowS k g)) (sgn x) Q := by
  have e : rowS k g = rowS k (updG g k x) := rowS_ext.mpr fun c h0 h1 => by unfold updG; rw [if_neg (by omega)]
  rw [e]
  exact opAdd_row (by unfold updG; rw [if_pos rfl]) hk q
def cellAt (ns : List Int) (k : Int) : Int := if k < ns.length then ns.getD k.toNat 0 else 0
theorem cellAt_get {ns : List Int} {k : Int} (h0 : 0 ≤ k) (h1 : k < ns.length) : atI (ns.map D.int) k = some (.int (cellAt ns k)) := by
  refine atI_map (f := D.int) (atI_of (j := k.toNat) (by omega) ?_)
  unfold cellAt
  rw [if_pos h1, List.getD_eq_getElem?_getD, List.getElem?_eq_getElem (by omega)]
  rfl
theorem cellAt_out {ns : List Int} {k : Int} (h1 : ¬ k < ns.length) : cellAt ns k = 0 := by unfold cellAt; rw [if_neg h1]
theorem cm_one {n : Nat} {f : Cp} {a b : Int} {w : Way} : [cpD n f, D.tup [.str w.str, .int a, .int b]] = [cpD n f, dM ⟨w, a, b⟩] := rfl
/-! a carpet moved -/
def movF (n : Nat) (m : Mv) (f : Cp) : Cp := fun r c => f (lR n (inv n m).w (inv n m).d r c) (lC n (inv n m).w (inv n m).r r c)
theorem okC_mov {n : Nat} {m : Mv} {f : Cp} (h : okC f) : okC (movF n m f) := fun _ _ => h _ _
theorem l_stay {n : Nat} {r c : Int} (h0 : 0 ≤ r) (h1 : r < n) (h2 : 0 ≤ c) (h3 : c < n) : lR n stayM.w stayM.d r c = r ∧ lC n stayM.w stayM.r r c = c := by
  constructor
  · show (r + 0) % (n : Int) = r
    rw [Int.add_zero]; exact Int.emod_eq_of_lt h0 h1
  · show (c + 0) % (n : Int) = c
    rw [Int.add_zero]; exact Int.emod_eq_of_lt h2 h3
/-- there and back -/
theorem led_back {n : Nat} (hn : 0 < n) (m : Mv) {r c : Int} (h0 : 0 ≤ r) (h1 : r < n) (h2 : 0 ≤ c) (h3 : c < n) :
    lR n (inv n m).w (inv n m).d (lR n m.w m.d r c) (lC n m.w m.r r c) = r ∧ lC n (inv n m).w (inv n m).r (lR n m.w m.d r c) (lC n m.w m.r r c) = c := by
  have hn' : (0 : Int) < n := by omega
  have e := thn_inv hn' m
  have e1 := lR_thn n m (inv n m) r c
  have e2 := lC_thn n m (inv n m) r c
  rw [e] at e1 e2
  have := l_stay h0 h1 h2 h3
  exact ⟨e1.symm.trans this.1, e2.symm.trans this.2⟩
theorem led_there {n : Nat} (hn : 0 < n) (m : Mv) (ok : m.ok n) {r c : Int} (h0 : 0 ≤ r) (h1 : r < n) (h2 : 0 ≤ c) (h3 : c < n) :
    lR n m.w m.d (lR n (inv n m).w (inv n m).d r c) (lC n (inv n m).w (inv n m).r r c) = r ∧ lC n m.w m.r (lR n (inv n m).w (inv n m).d r c) (lC n (inv n m).w (inv n m).r r c) = c := by
  have hn' : (0 : Int) < n := by omega
  have e := inv_thn hn' m ok
  have e1 := lR_thn n (inv n m) m r c
  have e2 := lC_thn n (inv n m) m r c
  rw [e] at e1 e2
  have := l_stay h0 h1 h2 h3
  exact ⟨e1.symm.trans this.1, e2.symm.trans this.2⟩
theorem mov_led {n : Nat} (hn : 0 < n) (m : Mv) (f : Cp) {r c : Int} (h0 : 0 ≤ r) (h1 : r < n) (h2 : 0 ≤ c) (h3 : c < n) : movF n m f (lR n m.w m.d r c) (lC n m.w m.r r c) = f r c := by
  have := led_back hn m h0 h1 h2 h3
  show f _ _ = _
  rw [this.1, this.2]
theorem mov_thn {n : Nat} (hn : 0 < n) {a b : Mv} (ha : a.ok n) (hb : b.ok n) (f : Cp) : ∀ r c : Int, 0 ≤ r → r < n → 0 ≤ c → c < n → movF n (thn n a b) f r c = movF n b (movF n a f) r c := by
  intro r c h0 h1 h2 h3
  have hn' : (0 : Int) < n := by omega
  have e : inv n (thn n a b) = thn n (inv n b) (inv n a) := by
    refine (inv_uniq hn' (thn_ok hn' _ _) (thn_ok hn' _ _) ?_).symm
    rw [thn_assoc, ← thn_assoc n b, thn_inv hn' b, stay_thn _ (inv_ok hn' a), thn_inv hn' a]
  unfold movF
  rw [e, lR_thn, lC_thn]
theorem mov_stay {n : Nat} (hn : 0 < n) (f : Cp) : ∀ r c : Int, 0 ≤ r → r < n → 0 ≤ c → c < n → movF n stayM f r c = f r c := by
  intro r c h0 h1 h2 h3
  have hn' : (0 : Int) < n := by omega
  have e : inv n stayM = stayM := by
    refine (inv_uniq hn' (stayM_ok hn') (stayM_ok hn') ?_).symm
    exact stay_thn _ (stayM_ok hn')
  unfold movF
  rw [e, (l_stay h0 h1 h2 h3).1, (l_stay h0 h1 h2 h3).2]
theorem mov_congr {n : Nat} (hn : 0 < n) (m : Mv) {f g : Cp} (h : ∀ r c : Int, 0 ≤ r → r < n → 0 ≤ c → c < n → f r c = g r c) : ∀ r c : Int, movF n m f r c = movF n m g r c := fun r c => by
  have hn' : (0 : Int) < n := by omega
  exact h _ _ (lR_ok hn' ..).1 (lR_ok hn' ..).2 (lC_ok hn' ..).1 (lC_ok hn' ..).2
end VN

/-! VD: what comes of movements; dicts of movements -/
namespace VN
open PySem VS PySem.W
inductive Reach (n : Int) (L : List Mv) : Mv → Prop
  | stay : Reach n L stayM
  | step {m x : Mv} : Reach n L m → x ∈ L → Reach n L (thn n m x)
open Classical in
noncomputable def madeL (n : Nat) (L : List Mv) : List Mv := (allM n).filter fun m => decide (Reach n L m)
theorem Reach.ok {n : Nat} (hn : 0 < n) {L : List Mv} {m : Mv} (h : Reach n L m) : m.ok n := by
  cases h with
  | stay => exact stayM_ok (by omega)
  | step _ _ => exact thn_ok (by omega) _ _
/-! dicts whose keys are movements -/
def kvM (v : D) (F : List Mv) : List (D × D) := F.map fun m => (dM m, v)
theorem nodup_le {α : Type} [BEq α] [LawfulBEq α] : ∀ {F L : List α}, F.Nodup → (∀ m ∈ F, m ∈ L) → F.length ≤ L.length
  | [], _, _, _ => Nat.zero_le _
  | a :: F, L, hd, h => by
    rw [List.nodup_cons] at hd
    have ha := h a (List.mem_cons_self ..)
    have := nodup_le (L := L.erase a) hd.2 fun m hm => (List.mem_erase_of_ne (fun e : m = a => hd.1 (by rw [← e]; exact hm))).mpr (h m (List.mem_cons_of_mem _ hm))
    rw [List.length_erase_of_mem ha] at this
    have := List.length_pos_of_mem ha
    rw [List.length_cons]
    omega
end VN

/-! VX: going abroad from some, step by step; dicts by injective keys; places in order, circles -/
namespace VN
open PySem VS PySem.W
section Close
variable {α β : Type} [DecidableEq α]
/-- one more looked at: F found, W waiting -/
def gro (st : α → β → α) (one : α) (p : List α × List α) (m : β) : List α × List α := if st one m ∈ p.1 then p else (p.1 ++ [st one m], p.2 ++ [st one m])
inductive Rch (st : α → β → α) (L : List β) (S : List α) : α → Prop
  | start {a : α} : a ∈ S → Rch st L S a
  | step {a : α} {x : β} : Rch st L S a → x ∈ L → Rch st L S (st a x)
structure CInv (st : α → β → α) (L : List β) (S U F W : List α) (r : Nat) : Prop where
  nd : F.Nodup
  re : ∀ m ∈ F, Rch st L S m
  s0 : ∀ m ∈ S, m ∈ F
  ww : ∀ m ∈ W, m ∈ F
  cl : ∀ m ∈ F, m ∉ W → ∀ x ∈ L, st m x ∈ F
  ub : ∀ m ∈ F, m ∈ U
  wl : W.length ≤ F.length
  ms : r + 2 * F.length = 2 * U.length + W.length
theorem nodup_le' {F L : List α} (h : F.Nodup) (k : ∀ m ∈ F, m ∈ L) : F.length ≤ L.length := nodup_le h k
/-- while one is looked at -/
structure GInv (st : α → β → α) (L : List β) (S U : List α) (one : α) (r : Nat) (pre : List β) (F W : List α) : Prop where
  nd : F.Nodup
  re : ∀ m ∈ F, Rch st L S m
  s0 : ∀ m ∈ S, m ∈ F
  o1 : one ∈ F
  ww : ∀ m ∈ W, m ∈ F
  cl : ∀ m ∈ F, m ∉ W → m = one ∨ ∀ x ∈ L, st m x ∈ F
  pr : ∀ x ∈ pre, st one x ∈ F
  ub : ∀ m ∈ F, m ∈ U
  wl : W.length ≤ F.length
  ms : r + 2 * F.length ≥ 2 * U.length + W.length + 1
theorem GInv.next {st : α → β → α} {L : List β} {S U F W : List α} {one : α} {r : Nat} {pre : List β} {x : β} (hU : ∀ m, Rch st L S m → m ∈ U) (h : GInv st L S U one r pre F W) (hx : x ∈ L) : GInv st L S U one r (pre ++ [x]) (gro st one (F, W) x).1 (gro st one (F, W) x).2 := by
  unfold gro
  by_cases hin : st one x ∈ F
  · rw [if_pos hin]
    refine ⟨h.nd, h.re, h.s0, h.o1, h.ww, h.cl, fun y hy => ?_, h.ub, h.wl, h.ms⟩
    rcases List.mem_append.mp hy with hy | hy
    · exact h.pr y hy
    · rw [List.mem_singleton.mp hy]; exact hin
  · rw [if_neg hin]
    have hr : Rch st L S (st one x) := .step (h.re one h.o1) hx
    refine ⟨?_, ?_, ?_, ?_, ?_, ?_, ?_, ?_, by have := h.wl; simp only [List.length_append, List.length_cons, List.length_nil]; omega, ?_⟩
    · rw [List.nodup_append]
      exact ⟨h.nd, by simp, fun a ha b hb e => hin (by rw [List.mem_singleton] at hb; rw [← hb, ← e]; exact ha)⟩
    · intro m hm
      rcases List.mem_append.mp hm with hm | hm
      · exact h.re m hm
      · rw [List.mem_singleton.mp hm]; exact hr
    · intro m hm; exact List.mem_append_left _ (h.s0 m hm)
    · exact List.mem_append_left _ h.o1
    · intro m hm
      rcases List.mem_append.mp hm with hm | hm
      · exact List.mem_append_left _ (h.ww m hm)
      · exact List.mem_append_right _ hm
    · intro m hm hmw
      rcases List.mem_append.mp hm with hm | hm
      · rcases h.cl m hm (fun z => hmw (List.mem_append_left _ z)) with e | e
        · exact .inl e
        · exact .inr fun y hy => List.mem_append_left _ (e y hy)
      · exact absurd (List.mem_append_right _ hm) hmw
    · intro y hy
      rcases List.mem_append.mp hy with hy | hy
      · exact List.mem_append_left _ (h.pr y hy)
      · rw [List.mem_singleton.mp hy]; simp
    · intro m hm
      rcases List.mem_append.mp hm with hm | hm
      · exact h.ub m hm
      · rw [List.mem_singleton.mp hm]; exact hU _ hr
    · have := h.ms
      simp only [List.length_append, List.length_cons, List.length_nil]
      omega
/-- one is taken from what waits -/
theorem CInv.take {st : α → β → α} {L : List β} {S U F W W' : List α} {one : α} {r : Nat} (h : CInv st L S U F W r) (hw : ∀ m, m ∈ W ↔ m = one ∨ m ∈ W') (hl : W.length = W'.length + 1) : GInv st L S U one r [] F W' := by
  refine ⟨h.nd, h.re, h.s0, h.ww _ ((hw _).mpr (.inl rfl)), fun m hm => h.ww _ ((hw _).mpr (.inr hm)), fun m hm hmw => ?_, by simp, h.ub, by have := h.wl; omega, ?_⟩
  · by_cases e : m = one
    · exact .inl e
    · exact .inr (h.cl m hm (fun z => ((hw m).mp z).elim e hmw))
  · have := h.ms
    omega
theorem GInv.back {st : α → β → α} {L : List β} {S U F W : List α} {one : α} {r : Nat} (h : GInv st L S U one r L F W) : CInv st L S U F W (2 * U.length + W.length - 2 * F.length) ∧ 2 * U.length + W.length - 2 * F.length < r := by
  have hb := nodup_le' h.nd h.ub
  have hm := h.ms
  refine ⟨⟨h.nd, h.re, h.s0, h.ww, fun m hm hmw => ?_, h.ub, h.wl, by omega⟩, by omega⟩
  rcases h.cl m hm hmw with e | e
  · subst e; exact h.pr
  · exact e
theorem CInv.init {st : α → β → α} {L : List β} {B U : List α} {a : α} (hB : B.Nodup) (ha : a ∉ B) (hc : ∀ m ∈ B, ∀ x ∈ L, st m x ∈ B) (hU : ∀ m ∈ B ++ [a], m ∈ U) : CInv st L (B ++ [a]) U (B ++ [a]) [a] (2 * U.length - 2 * B.length - 1) := by
  have hn : (B ++ [a]).Nodup := by
    rw [List.nodup_append]
    exact ⟨hB, by simp, fun x hx y hy e => ha (by rw [List.mem_singleton] at hy; rw [← hy, ← e]; exact hx)⟩
  have hb := nodup_le' hn hU
  simp only [List.length_append, List.length_cons, List.length_nil] at hb
  refine ⟨hn, fun m hm => .start hm, fun m hm => hm, by simp, fun m hm hmw x hx => ?_, hU, by simp, ?_⟩
  · rcases List.mem_append.mp hm with hm | hm
    · exact List.mem_append_left _ (hc m hm x hx)
    · exact absurd hm hmw
  · simp only [List.length_append, List.length_cons, List.length_nil]
    omega
theorem CInv.done {st : α → β → α} {L : List β} {S U F : List α} {r : Nat} (h : CInv st L S U F [] r) : ∀ m, m ∈ F ↔ Rch st L S m := by
  intro m
  refine ⟨h.re m, fun q => ?_⟩
  induction q with
  | start hs => exact h.s0 _ hs
  | step _ hx ih => exact h.cl _ ih (by simp) _ hx
theorem CInv.len {st : α → β → α} {L : List β} {S U F W : List α} {r : Nat} (h : CInv st L S U F W r) : F.length ≤ U.length := nodup_le' h.nd h.ub
theorem GInv.len {st : α → β → α} {L pre : List β} {S U F W : List α} {one : α} {r : Nat} (h : GInv st L S U one r pre F W) : F.length ≤ U.length := nodup_le' h.nd h.ub
theorem Rch.mono {st : α → β → α} {L M : List β} {S T : List α} (hL : ∀ x ∈ L, x ∈ M) (hS : ∀ a ∈ S, a ∈ T) {m : α} (h : Rch st L S m) : Rch st M T m := by
  induction h with
  | start hs => exact .start (hS _ hs)
  | step _ hx ih => exact .step ih (hL _ hx)
theorem Rch.trans {st : α → β → α} {L : List β} {S : List α} {a b : α} (ha : Rch st L S a) (hb : Rch st L [a] b) : Rch st L S b := by
  induction hb with
  | start hs => rw [List.mem_singleton.mp hs]; exact ha
  | step _ hx ih => exact .step ih hx
/-- from B, which is closed, and a: in B, or from a -/
theorem Rch.split {st : α → β → α} {L : List β} {B : List α} {a : α} (hc : ∀ m ∈ B, ∀ x ∈ L, st m x ∈ B) {m : α} (h : Rch st L (B ++ [a]) m) : m ∈ B ∨ Rch st L [a] m := by
  induction h with
  | start hs =>
    rcases List.mem_append.mp hs with hs | hs
    · exact .inl hs
    · exact .inr (.start hs)
  | step _ hx ih =>
    rcases ih with ih | ih
    · exact .inl (hc _ ih _ hx)
    · exact .inr (.step ih hx)
end Close
/-! dicts by injective keys -/
section
variable {α : Type} [DecidableEq α] {k : α → D}
def kvA (k v : α → D) (F : List α) : List (D × D) := F.map fun a => (k a, v a)
theorem kvA_get (hk : ∀ a b, k a = k b → a = b) (v : α → D) (m : α) : ∀ F : List α, dget (kvA k v F) (k m) = if m ∈ F then some (v m) else none
  | [] => rfl
  | a :: F => by
    show dget ((k a, v a) :: kvA k v F) (k m) = _
    rw [dget_cons, kvA_get hk v m F]
    by_cases e : a = m
    · subst e; simp
    · have e1 : ¬ k a = k m := fun z => e (hk _ _ z)
      have e2 : ¬ m = a := fun z => e z.symm
      rw [if_neg e1]
      simp [e2]
theorem kvA_some (hk : ∀ a b, k a = k b → a = b) (v : α → D) (m : α) (F : List α) : (dget (kvA k v F) (k m)).isSome = decide (m ∈ F) := by
  rw [kvA_get hk]
  by_cases h : m ∈ F
  · simp [h]
  · simp [h]
theorem kvA_put (hk : ∀ a b, k a = k b → a = b) {v : α → D} {m : α} {F : List α} (h : m ∉ F) : dput (kvA k v F) (k m) (v m) = kvA k v (F ++ [m]) := by
  unfold dput
  rw [if_neg]
  · unfold kvA; rw [List.map_append]; rfl
  · intro z
    obtain ⟨p, hp, hq⟩ := List.any_eq_true.mp z
    obtain ⟨a, ha, rfl⟩ := List.mem_map.mp hp
    have := hk _ _ (of_decide_eq_true hq)
    exact h (this ▸ ha)
theorem kvA_len (v : α → D) (F : List α) : (kvA k v F).length = F.length := List.length_map _
theorem kvA_isSome (hk : ∀ a b, k a = k b → a = b) (v : α → D) (m : α) (F : List α) : (dget (kvA k v F) (k m)).isSome = true ↔ m ∈ F := by
  rw [kvA_some hk, decide_eq_true_iff]
theorem kvA_in (hk : ∀ a b, k a = k b → a = b) {v : α → D} {m : α} {F : List α} (h : m ∈ F) : dget (kvA k v F) (k m) = some (v m) := by
  rw [kvA_get hk, if_pos h]
/-- put again: nothing new -/
theorem kvA_put_in (hk : ∀ a b, k a = k b → a = b) {v : α → D} {m : α} {F : List α} (h : m ∈ F) : dput (kvA k v F) (k m) (v m) = kvA k v F := by
  unfold dput
  rw [if_pos]
  · unfold kvA
    rw [List.map_map]
    refine List.map_congr_left fun a ha => ?_
    show (if k a = k m then (k a, v m) else (k a, v a)) = (k a, v a)
    split
    · rename_i e; rw [hk _ _ e]
    · rfl
  · rw [List.any_eq_true]
    exact ⟨(k m, v m), List.mem_map.mpr ⟨m, h, rfl⟩, decide_eq_true rfl⟩
end
/-! places -/
abbrev Pl := Int × Int
abbrev dP (p : Pl) : D := dPl p.1 p.2
theorem dP_inj (a b : Pl) (h : dP a = dP b) : a = b := Prod.ext (dPl_inj h).1 (dPl_inj h).2
def leP (a b : Pl) : Prop := a.1 < b.1 ∨ (a.1 = b.1 ∧ a.2 ≤ b.2)
instance (a b : Pl) : Decidable (leP a b) := by unfold leP; infer_instance
theorem leP_anti {a b : Pl} (h1 : leP a b) (h2 : leP b a) : a = b := by
  unfold leP at h1 h2
  exact Prod.ext (by omega) (by omega)
theorem leP_trans {a b c : Pl} (h1 : leP a b) (h2 : leP b c) : leP a c := by
  unfold leP at h1 h2 ⊢
  omega
theorem leP_total (a b : Pl) : leP a b ∨ leP b a := by
  unfold leP
  omega
def sortP (L : List Pl) : List Pl := L.mergeSort fun a b => decide (leP a b)
theorem sortP_pw (L : List Pl) : (sortP L).Pairwise leP := by
  have := List.pairwise_mergeSort (le := fun a b : Pl => decide (leP a b)) (fun a b c h1 h2 => decide_eq_true (leP_trans (of_decide_eq_true h1) (of_decide_eq_true h2))) (fun a b => by rcases leP_total a b with h | h <;> simp [h]) L
  exact this.imp fun h => of_decide_eq_true h
theorem sortP_perm (L : List Pl) : (sortP L).Perm L := List.mergeSort_perm ..
theorem sortP_eq {L M : List Pl} (hp : M.Perm L) (ho : M.Pairwise leP) : sortP L = M := ((sortP_perm L).trans hp.symm).eq_of_pairwise (fun a b _ _ h1 h2 => leP_anti h1 h2) (sortP_pw L) ho
def allP (n : Nat) : List Pl := (List.range n).flatMap fun r : Nat => (List.range n).map fun c : Nat => (((r : Nat) : Int), ((c : Nat) : Int))
theorem mem_allP {n : Nat} {p : Pl} : p ∈ allP n ↔ 0 ≤ p.1 ∧ p.1 < n ∧ 0 ≤ p.2 ∧ p.2 < n := by
  unfold allP
  rw [List.mem_flatMap]
  constructor
  · rintro ⟨r, hr, hp⟩
    obtain ⟨c, hc, rfl⟩ := List.mem_map.mp hp
    rw [List.mem_range] at hr hc
    exact ⟨by show (0 : Int) ≤ r; omega, by show (r : Int) < n; omega, by show (0 : Int) ≤ c; omega, by show (c : Int) < n; omega⟩
  · rintro ⟨h0, h1, h2, h3⟩
    refine ⟨p.1.toNat, List.mem_range.mpr (by omega), List.mem_map.mpr ⟨p.2.toNat, List.mem_range.mpr (by omega), (?_ : ((p.1.toNat : Int), (p.2.toNat : Int)) = p)⟩⟩
    exact Prod.ext (by simp only; omega) (by simp only; omega)
theorem allP_pw (n : Nat) : (allP n).Pairwise fun a b => leP a b ∧ a ≠ b := by
  unfold allP
  rw [List.pairwise_flatMap]
  constructor
  · intro r _
    rw [List.pairwise_map]
    refine List.pairwise_lt_range.imp fun {a b} h => ⟨.inr ⟨rfl, by simp only; omega⟩, fun e => ?_⟩
    have := congrArg Prod.snd e
    simp only at this
    omega
  · refine List.pairwise_lt_range.imp fun {a b} h x hx y hy => ?_
    obtain ⟨c, _, rfl⟩ := List.mem_map.mp hx
    obtain ⟨d, _, rfl⟩ := List.mem_map.mp hy
    refine ⟨.inl (by simp only; omega), fun e => ?_⟩
    have := congrArg Prod.fst e
    simp only at this
    omega
theorem allP_nodup (n : Nat) : (allP n).Nodup := (allP_pw n).imp fun h => h.2
theorem allP_le (n : Nat) : (allP n).Pairwise leP := (allP_pw n).imp fun h => h.1
theorem allP_len (n : Nat) : (allP n).length = n * n := by
  unfold allP
  rw [List.length_flatMap]
  simp only [List.length_map, List.length_range]
  induction n with
  | zero => rfl
  | succ m _ =>
    generalize m + 1 = k
    have : ∀ l : List Nat, (l.map fun _ => k).sum = l.length * k := by
      intro l
      induction l with
      | nil => simp
      | cons a l ih => rw [List.map_cons, List.sum_cons, ih, List.length_cons, Nat.succ_mul]; omega
    rw [this, List.length_range]
open Classical in
/-- sorted, of those with a property -/
theorem sortP_filter {n : Nat} {F : List Pl} {p : Pl → Prop} (hd : F.Nodup) (h : ∀ m, m ∈ F ↔ m ∈ allP n ∧ p m) : sortP F = (allP n).filter fun m => decide (p m) := by
  refine sortP_eq ?_ ((allP_le n).filter _)
  refine (List.perm_ext_iff_of_nodup ((allP_nodup n).filter _) hd).mpr fun m => ?_
  rw [List.mem_filter, h]
  simp
theorem in_kvP {neg : Bool} {v : Pl → D} {r c : Int} {F : List Pl} {Q : RV → Prop} (q : Q (.val (.bl (neg ^^ decide ((r, c) ∈ F))))) : opIn neg (dPl r c) (.dic true (kvA dP v F)) Q := ⟨rfl, rfl, by
  have e : (dget (kvA dP v F) (dPl r c)).isSome = decide ((r, c) ∈ F) := by
    rw [Bool.eq_iff_iff, decide_eq_true_iff]
    exact kvA_isSome dP_inj v (r, c) F
  rw [e]; exact q⟩
/-! where movements lead places; circles -/
def ledP (n : Int) (p : Pl) (m : Mv) : Pl := (lR n m.w m.d p.1 p.2, lC n m.w m.r p.1 p.2)
abbrev RchP (n : Nat) (L : List Mv) (p q : Pl) : Prop := Rch (ledP n) L [p] q
theorem ledP_in {n : Nat} (hn : 0 < n) (p : Pl) (m : Mv) : ledP n p m ∈ allP n := by
  have hn' : (0 : Int) < n := by omega
  exact mem_allP.mpr ⟨(lR_ok hn' ..).1, (lR_ok hn' ..).2, (lC_ok hn' ..).1, (lC_ok hn' ..).2⟩
theorem rchP_in {n : Nat} (hn : 0 < n) {L : List Mv} {p q : Pl} (hp : p ∈ allP n) (h : RchP n L p q) : q ∈ allP n := by
  cases h with
  | start hs => rw [List.mem_singleton.mp hs]; exact hp
  | step _ _ => exact ledP_in hn _ _
theorem ledP_thn (n : Int) (p : Pl) (a b : Mv) : ledP n p (thn n a b) = ledP n (ledP n p a) b := Prod.ext (lR_thn n a b p.1 p.2) (lC_thn n a b p.1 p.2)
theorem ledP_stay {n : Nat} {p : Pl} (hp : p ∈ allP n) : ledP n p stayM = p := by
  obtain ⟨h0, h1, h2, h3⟩ := mem_allP.mp hp
  have := l_stay h0 h1 h2 h3
  exact Prod.ext this.1 this.2
theorem ledP_pow {n : Nat} (hn : 0 < n) {L : List Mv} {m : Mv} (hm : m ∈ L) {p q : Pl} (hq : q ∈ allP n) (h : RchP n L p q) : ∀ k, RchP n L p (ledP n q (powM n m k))
  | 0 => by
    show RchP n L p (ledP n q stayM)
    rw [ledP_stay hq]
    exact h
  | k + 1 => by
    show RchP n L p (ledP n q (thn n (powM n m k) m))
    rw [ledP_thn]
    exact .step (ledP_pow hn hm hq h k) hm
theorem rchP_refl {n : Nat} {L : List Mv} (p : Pl) : RchP n L p p := .start (by simp)
theorem rchP_trans {n : Nat} {L : List Mv} {p q s : Pl} (h : RchP n L p q) (k : RchP n L q s) : RchP n L p s := Rch.trans h k
/-- led on by m, back again -/
theorem rchP_back {n : Nat} (hn : 0 < n) {L : List Mv} {m : Mv} (hm : m ∈ L) (ok : m.ok n) {p : Pl} (hp : p ∈ allP n) : RchP n L (ledP n p m) p := by
  have hn' : (0 : Int) < n := by omega
  have h := ledP_pow hn hm (ledP_in hn p m) (rchP_refl (L := L) (ledP n p m)) (4 * n - 1)
  rw [← ledP_thn] at h
  have e : thn n m (powM n m (4 * n - 1)) = stayM := by
    have h4 := powM_4n hn' m
    rw [Int.toNat_natCast] at h4
    have h1 : powM n m (1 + (4 * n - 1)) = thn n (powM n m 1) (powM n m (4 * n - 1)) := powM_add hn' m 1 _
    rw [show 1 + (4 * n - 1) = 4 * n by omega, h4, powM_1 m ok] at h1
    exact h1.symm
  rw [e, ledP_stay hp] at h
  exact h
theorem rchP_symm {n : Nat} (hn : 0 < n) {L : List Mv} (ok : ∀ m ∈ L, m.ok n) {p q : Pl} (hp : p ∈ allP n) (h : RchP n L p q) : RchP n L q p := by
  induction h with
  | start hs => rw [List.mem_singleton.mp hs]; exact .start (by simp)
  | step h hx ih => exact rchP_trans (rchP_back hn hx (ok _ hx) (rchP_in hn hp h)) ih
open Classical in
/-- the circle of a place -/
noncomputable def circP (n : Nat) (L : List Mv) (p : Pl) : List Pl := (allP n).filter fun q => decide (RchP n L p q)
theorem mem_circP {n : Nat} {L : List Mv} {p q : Pl} : q ∈ circP n L p ↔ q ∈ allP n ∧ RchP n L p q := by
  classical
  unfold circP
  rw [List.mem_filter]
  simp
theorem circP_le (n : Nat) (L : List Mv) (p : Pl) : (circP n L p).Pairwise leP := (allP_le n).filter _
theorem circP_self {n : Nat} {L : List Mv} {p : Pl} (hp : p ∈ allP n) : p ∈ circP n L p := mem_circP.mpr ⟨hp, rchP_refl p⟩
theorem circP_eq {n : Nat} (hn : 0 < n) {L : List Mv} (ok : ∀ m ∈ L, m.ok n) {p q : Pl} (hp : p ∈ allP n) (h : RchP n L p q) : circP n L q = circP n L p := by
  classical
  unfold circP
  refine List.filter_congr fun s hs => ?_
  have : RchP n L q s ↔ RchP n L p s := ⟨fun k => rchP_trans h k, fun k => rchP_trans (rchP_symm hn ok hp h) k⟩
  simp [this]
/-- the least place of a circle -/
noncomputable def rootP (n : Nat) (L : List Mv) (p : Pl) : Pl := ((circP n L p).head?).getD p
theorem rootP_mem {n : Nat} {L : List Mv} {p : Pl} (hp : p ∈ allP n) : rootP n L p ∈ circP n L p := by
  unfold rootP
  have := circP_self (L := L) hp
  cases e : circP n L p with
  | nil => rw [e] at this; cases this
  | cons a l => simp
theorem rootP_le {n : Nat} {L : List Mv} {p q : Pl} (hq : q ∈ circP n L p) : leP (rootP n L p) q := by
  have hw := circP_le n L p
  unfold rootP
  cases e : circP n L p with
  | nil => rw [e] at hq; cases hq
  | cons a l =>
    rw [e] at hq hw
    rw [List.pairwise_cons] at hw
    rcases List.mem_cons.mp hq with h | h
    · subst h; exact .inr ⟨rfl, Int.le_refl _⟩
    · exact hw.1 q h
theorem rootP_eq {n : Nat} (hn : 0 < n) {L : List Mv} (ok : ∀ m ∈ L, m.ok n) {p q : Pl} (hp : p ∈ allP n) (h : RchP n L p q) : rootP n L q = rootP n L p := by
  have hq := rchP_in hn hp h
  refine leP_anti (rootP_le ?_) (rootP_le ?_)
  · rw [circP_eq hn ok hp h]; exact rootP_mem hp
  · rw [← circP_eq hn ok hp h]; exact rootP_mem hq
theorem rootP_rch {n : Nat} {L : List Mv} {p : Pl} (hp : p ∈ allP n) : RchP n L p (rootP n L p) := (mem_circP.mp (rootP_mem hp)).2
theorem rootP_in {n : Nat} {L : List Mv} {p : Pl} (hp : p ∈ allP n) : rootP n L p ∈ allP n := (mem_circP.mp (rootP_mem hp)).1
/-- alike roots: one circle -/
theorem rootP_iff {n : Nat} (hn : 0 < n) {L : List Mv} (ok : ∀ m ∈ L, m.ok n) {p q : Pl} (hp : p ∈ allP n) (hq : q ∈ allP n) : rootP n L p = rootP n L q ↔ RchP n L p q := by
  refine ⟨fun h => ?_, fun h => (rootP_eq hn ok hp h).symm⟩
  have h1 := rootP_rch (L := L) hp
  rw [h] at h1
  exact rchP_trans h1 (rchP_symm hn ok hq (rootP_rch hq))
theorem rootP_root {n : Nat} (hn : 0 < n) {L : List Mv} (ok : ∀ m ∈ L, m.ok n) {p : Pl} (hp : p ∈ allP n) : rootP n L (rootP n L p) = rootP n L p := rootP_eq hn ok hp (rootP_rch hp)
/-- the roots, in order; the circles -/
noncomputable def rootsL (n : Nat) (L : List Mv) : List Pl := (allP n).filter fun p => decide (rootP n L p = p)
noncomputable def circlesL (n : Nat) (L : List Mv) : List (List Pl) := (rootsL n L).map (circP n L)
abbrev dLP (l : List Pl) : D := .lst (l.map dP)
end VN

/-! VY: what leaves a carpet; first unlike places; the drawn things of stages 5 to 7 -/
namespace VN
open PySem VS PySem.W
def lvB (n : Nat) (m : Mv) (f : Cp) : Bool := decide ((cpD n (movF n m f)).un = (cpD n f).un)
theorem lvB_iff {n : Nat} (hn : 0 < n) {m : Mv} (ok : m.ok n) (f : Cp) : lvB n m f = true ↔ ∀ r c : Int, 0 ≤ r → r < n → 0 ≤ c → c < n → f (lR n m.w m.d r c) (lC n m.w m.r r c) = f r c := by
  have hn' : (0 : Int) < n := by omega
  unfold lvB
  rw [decide_eq_true_iff]
  show cpD n (movF n m f) = cpD n f ↔ _
  rw [cp_ext]
  constructor
  · intro h r c h0 h1 h2 h3
    rw [← h _ _ (lR_ok hn' ..).1 (lR_ok hn' ..).2 (lC_ok hn' ..).1 (lC_ok hn' ..).2]
    exact mov_led hn m f h0 h1 h2 h3
  · intro h r c h0 h1 h2 h3
    have e := led_there hn m ok h0 h1 h2 h3
    have := h _ _ (lR_ok hn' (inv n m).w (inv n m).d r c).1 (lR_ok hn' (inv n m).w (inv n m).d r c).2 (lC_ok hn' (inv n m).w (inv n m).r r c).1 (lC_ok hn' (inv n m).w (inv n m).r r c).2
    rw [e.1, e.2] at this
    exact this.symm
/-- the first place at which f and g are unlike -/
def FirstU (n : Nat) (f g : Cp) : Option Pl → Prop
  | none => ∀ r c : Int, 0 ≤ r → r < n → 0 ≤ c → c < n → f r c = g r c
  | some p => p ∈ allP n ∧ f p.1 p.2 ≠ g p.1 p.2 ∧ ∀ r c : Int, 0 ≤ r → 0 ≤ c → c < n → (r < p.1 ∨ (r = p.1 ∧ c < p.2)) → f r c = g r c
def optP : Option Pl → D
  | none => .non
  | some p => dP p
def mixA (c k : Int) : Int := (c % 1000003 + k * k + 1) * 48271 % 2147483647
def mvA (n x : Int) : Mv := ⟨wayAt (x % 8), x / 8 % n, x / 64 % n⟩
abbrev disp8 (v0 v1 v2 v3 v4 v5 v6 v7 : D) : List (D × D) := mergeD [] [(.str "stay", v0), (.str "turn", v1), (.str "half", v2), (.str "back", v3), (.str "side", v4), (.str "flip", v5), (.str "cross", v6), (.str "other", v7)]
/-- small letters -/
def okA (f : Cp) : Prop := ∀ r c, 97 ≤ f r c ∧ f r c < 123
theorem okA_okC {f : Cp} (h : okA f) : okC f := fun r c => by have := h r c; omega
def okS (s : Str) : Prop := 0 < s.length ∧ s.length ≤ 26 ∧ ∀ x ∈ s.cps.toList, 97 ≤ x ∧ x < 123
/-- rows ahead of i, and of row i the first j -/
def preP (n i j : Nat) : List Pl := ((List.range i).flatMap fun r : Nat => (List.range n).map fun c : Nat => (((r : Nat) : Int), ((c : Nat) : Int))) ++ (List.range j).map fun c : Nat => (((i : Nat) : Int), ((c : Nat) : Int))
theorem preP_succ (n i j : Nat) : preP n i (j + 1) = preP n i j ++ [((i : Int), (j : Int))] := by
  unfold preP
  rw [List.range_succ, List.map_append, ← List.append_assoc]
  rfl
theorem preP_row (n i : Nat) : preP n (i + 1) 0 = preP n i n := by
  unfold preP
  rw [List.range_succ, List.flatMap_append, List.flatMap_cons, List.flatMap_nil, List.append_nil, List.range_zero, List.map_nil, List.append_nil]
theorem preP_all (n : Nat) : preP n n 0 = allP n := by
  unfold preP allP
  rw [List.range_zero, List.map_nil, List.append_nil]
/-- strictly ahead -/
def ltP (a b : Pl) : Prop := a.1 < b.1 ∨ (a.1 = b.1 ∧ a.2 < b.2)
theorem leP_lt {a b : Pl} : leP a b ↔ a = b ∨ ltP a b := by
  unfold leP ltP
  constructor
  · intro h
    by_cases e : a = b
    · exact .inl e
    · refine .inr ?_
      have : ¬ (a.1 = b.1 ∧ a.2 = b.2) := fun z => e (Prod.ext z.1 z.2)
      omega
  · rintro (rfl | h)
    · exact .inr ⟨rfl, Int.le_refl _⟩
    · omega
theorem sgn_inj {a b : Nat} (h : sgn a = sgn b) : a = b := by
  have h := D.str.inj h
  injection h with h
  simpa using h
/-- all places whose root is ahead of (i, j) -/
structure RInv (n : Nat) (L : List Mv) (i j : Nat) (F : List Pl) : Prop where
  nd : F.Nodup
  mem : ∀ p, p ∈ F ↔ p ∈ allP n ∧ ltP (rootP n L p) ((i : Int), (j : Int))
theorem RInv.zero {n : Nat} {L : List Mv} : RInv n L 0 0 [] := ⟨by simp, fun p => by
  simp only [List.not_mem_nil, false_iff, not_and]
  intro hp
  have := mem_allP.mp (rootP_in (L := L) hp)
  unfold ltP
  simp only
  omega⟩
theorem RInv.all {n : Nat} {L : List Mv} {F : List Pl} (h : RInv n L n 0 F) (hn : 0 < n) : ∀ p, p ∈ F ↔ p ∈ allP n := fun p => by
  rw [h.mem]
  refine ⟨fun z => z.1, fun z => ⟨z, ?_⟩⟩
  have := mem_allP.mp (rootP_in (L := L) z)
  exact .inl (by simp only; omega)
theorem RInv.row {n i : Nat} {L : List Mv} {F : List Pl} (h : RInv n L i n F) : RInv n L (i + 1) 0 F := ⟨h.nd, fun p => by
  rw [h.mem]
  refine and_congr_right fun z => ?_
  have := mem_allP.mp (rootP_in (L := L) z)
  unfold ltP
  simp only
  omega⟩
theorem RInv.len {n i j : Nat} {L : List Mv} {F : List Pl} (h : RInv n L i j F) : F.length ≤ n * n := by
  rw [← allP_len n]
  exact nodup_le' h.nd fun m hm => ((h.mem m).mp hm).1
theorem RInv.closed {n i j : Nat} (hn : 0 < n) {L : List Mv} (ok : ∀ x ∈ L, x.ok n) {F : List Pl} (h : RInv n L i j F) : ∀ m ∈ F, ∀ x ∈ L, ledP n m x ∈ F := fun m hm x hx => by
  obtain ⟨h1, h2⟩ := (h.mem m).mp hm
  refine (h.mem _).mpr ⟨ledP_in hn m x, ?_⟩
  rw [rootP_eq hn ok h1 (.step (rchP_refl m) hx)]
  exact h2
theorem RInv.root {n i j : Nat} {L : List Mv} {F : List Pl} (h : RInv n L i j F) {p : Pl} (hp : p ∈ allP n) (h1 : p.1 = i) (h2 : p.2 = j) (hF : p ∉ F) : rootP n L p = p := by
  rcases leP_lt.mp (rootP_le (circP_self (L := L) hp)) with e | e
  · exact e
  · refine absurd ((h.mem p).mpr ⟨hp, ?_⟩) hF
    unfold ltP at e ⊢
    simp only
    omega
theorem RInv.start {n i j : Nat} (hn : 0 < n) {L : List Mv} (ok : ∀ x ∈ L, x.ok n) {F : List Pl} (h : RInv n L i j F) {p : Pl} (hp : p ∈ allP n) (h1 : p.1 = i) (h2 : p.2 = j) (hF : p ∉ F) : rootP n L p = p ∧ CInv (ledP n) L (F ++ [p]) (allP n) (F ++ [p]) [p] (2 * (allP n).length - 2 * F.length - 1) :=
  ⟨h.root hp h1 h2 hF, CInv.init h.nd hF (h.closed hn ok) fun m hm => by
    rcases List.mem_append.mp hm with hm | hm
    · exact ((h.mem m).mp hm).1
    · rw [List.mem_singleton.mp hm]; exact hp⟩
theorem RInv.rch_in {n i j : Nat} (hn : 0 < n) {L : List Mv} {F : List Pl} (h : RInv n L i j F) {p m : Pl} (hp : p ∈ allP n) (hm : Rch (ledP n) L (F ++ [p]) m) : m ∈ allP n := by
  cases hm with
  | start hs =>
    rcases List.mem_append.mp hs with hs | hs
    · exact ((h.mem _).mp hs).1
    · rw [List.mem_singleton.mp hs]; exact hp
  | step _ _ => exact ledP_in hn _ _
theorem RInv.next {n i j : Nat} (hn : 0 < n) {L : List Mv} (ok : ∀ x ∈ L, x.ok n) {F F' : List Pl} {r : Nat} (h : RInv n L i j F) {p : Pl} (hp : p ∈ allP n) (h1 : p.1 = i) (h2 : p.2 = j) (hr : rootP n L p = p) (hC : CInv (ledP n) L (F ++ [p]) (allP n) F' [] r) : RInv n L i (j + 1) F' := by
  refine ⟨hC.nd, fun q => ?_⟩
  rw [hC.done]
  constructor
  · intro z
    have hq := h.rch_in hn hp z
    refine ⟨hq, ?_⟩
    rcases Rch.split (h.closed hn ok) z with e | e
    · have := ((h.mem q).mp e).2
      unfold ltP at this ⊢
      simp only at this ⊢
      omega
    · rw [rootP_eq hn ok hp e, hr]
      unfold ltP
      simp only
      omega
  · rintro ⟨hq, hlt⟩
    by_cases e : rootP n L q = p
    · have : RchP n L p q := (rootP_iff hn ok hp hq).mp (by rw [hr, e])
      exact Rch.mono (fun _ h => h) (fun a ha => List.mem_append_right _ ha) this
    · refine .start (List.mem_append_left _ ((h.mem q).mpr ⟨hq, ?_⟩))
      have : ¬ ((rootP n L q).1 = p.1 ∧ (rootP n L q).2 = p.2) := fun z => e (Prod.ext z.1 z.2)
      unfold ltP at hlt ⊢
      simp only at hlt ⊢
      omega
theorem RInv.skip {n i j : Nat} (hn : 0 < n) {L : List Mv} (ok : ∀ x ∈ L, x.ok n) {F : List Pl} (h : RInv n L i j F) {p : Pl} (h1 : p.1 = i) (h2 : p.2 = j) (hF : p ∈ F) : RInv n L i (j + 1) F := by
  refine ⟨h.nd, fun q => ?_⟩
  rw [h.mem]
  refine and_congr_right fun hq => ?_
  obtain ⟨hp, hlt⟩ := (h.mem p).mp hF
  have : ¬ ((rootP n L q).1 = p.1 ∧ (rootP n L q).2 = p.2) := fun z => by
    have e : rootP n L q = p := Prod.ext z.1 z.2
    rw [← e, rootP_root hn ok hq, e] at hlt
    unfold ltP at hlt
    simp only at hlt
    omega
  unfold ltP
  simp only
  omega
end VN

/-! VZ: all that leave; the few -/
namespace VN
open PySem VS PySem.W
def unM : D → Mv
  | .tup [.str w, .int a, .int b] => ⟨wayS w, a, b⟩
  | _ => stayM
theorem unM_dM (m : Mv) : unM (dM m) = m := by
  show (⟨wayS m.w.str, m.d, m.r⟩ : Mv) = m
  rw [wayS_str]
def lvL (n : Nat) (f : Cp) : List Mv := (allM n).filter fun m => lvB n m f
/-! the few -/
open Classical in
noncomputable def fewS (n : Nat) (few : List Mv) (m : Mv) : List Mv := if m ∈ madeL n few then few else few ++ [m]
noncomputable def fewL (n : Nat) (E : List Mv) : List Mv := E.foldl (fewS n) []
end VN

/-! VSU: is of truths, xs[::-1], clear of a new list, enumerate -/
namespace VS
open PySem PySem.Spec L2
section
variable {c : Cfg} {pos : Pos} {a b : Expr} {ta tb : ET}
def opIsB (neg : Bool) : D → D → (RV → Prop) → Prop
  | .bl x, .bl y, Q => Q (.val (.bl (neg ^^ decide (x = y))))
  | _, _, _ => False
/-! xs[::-1] of a list -/
def eRev (t : ET) : ET := fun env Q Xq => t env (fun rv e1 => ∃ ds, rd e1 rv = some (.lst ds) ∧ Q (.fr (.lst ds.reverse)) e1) Xq
/-! f(..).clear(), of a new list -/
def eClrF (t : ET) : ET := fun env Q Xq => t env (fun rv e1 => ∃ ds, rv = .fr (.lst ds) ∧ Q (.val .non) e1) Xq
/-! enumerate of a list that is lent or shared -/
def enuD : Nat → List D → List D
  | _, [] => []
  | k, d :: ds => .tup [.int (k : Nat), d] :: enuD (k + 1) ds
def enuR (env : Env) : RV → Option (List D)
  | .val (.lst ds) => some ds
  | .slot i => match env[i]? with
    | some (.bor (.lst ds)) => some ds
    | some (.val (.lst ds)) => some ds
    | _ => none
  | _ => none
def iEnu (ta : AT) : IT := fun env Q Xq => ta env (fun rs e1 => ∃ r ds, rs = [r] ∧ enuR e1 r = some ds ∧ Q (enuD 0 ds) none e1) Xq
end
end VS

/-! VB: bending ways, mirrors, stands -/
namespace VN
open PySem VS PySem.W
def bend : Way → Bool | .side => true | .flip => true | .cross => true | .other => true | _ => false
/-- a wide bending one -/
structure Wd (n : Int) (m : Mv) : Prop where
  b : bend m.w = true
  d0 : 0 ≤ m.d
  d1 : m.d < 2 * n
  r0 : 0 ≤ m.r
  r1 : m.r < 2 * n
def mirB (n : Int) (m : Mv) : Bool := match m.w with
  | .side => decide (m.d = 0)
  | .flip => decide (m.r = 0)
  | .cross => decide ((m.d + m.r) % (2 * n) = 0)
  | _ => decide (m.d = m.r)
def mirC (w : Way) (low far : Int) : Prop := gR w low far + low = 0 ∧ gC w low far + far = 0
instance (w : Way) (low far : Int) : Decidable (mirC w low far) := by unfold mirC; infer_instance
def standM (n : Int) (m : Mv) : Option Mv := if (m.d - gR m.w m.d m.r) % 2 = 1 ∨ (m.r - gC m.w m.d m.r) % 2 = 1 then none else some ⟨m.w, (m.d - gR m.w m.d m.r) / 2 % n, (m.r - gC m.w m.d m.r) / 2 % n⟩
def optM : Option Mv → D
  | none => .non
  | some m => dM m
theorem dM_side {d r : Int} : dM ⟨.side, d, r⟩ = .tup [.str "side", .int d, .int r] := rfl
theorem dM_flip {d r : Int} : dM ⟨.flip, d, r⟩ = .tup [.str "flip", .int d, .int r] := rfl
theorem dM_cross {d r : Int} : dM ⟨.cross, d, r⟩ = .tup [.str "cross", .int d, .int r] := rfl
theorem dM_other {d r : Int} : dM ⟨.other, d, r⟩ = .tup [.str "other", .int d, .int r] := rfl
end VN

/-! VK: letters, all movements by ways, kin -/
namespace VN
open PySem VS PySem.W
def mixB (c k : Int) : Int := (c % 2147483647 + 17) * (48271 + 2 * k * k) % 2147483629
def allW (n : Nat) : List Mv := allOf ways n
theorem allW_len (n : Nat) : (allW n).length = 8 * (n * n) := allOf_len ways n
theorem mem_ways'' (w : Way) : w ∈ ways := by cases w <;> decide
theorem mem_allW {n : Nat} {m : Mv} : m ∈ allW n ↔ m.ok n := by rw [allW, mem_allOf]; simp [mem_ways'']
theorem dM_stay' {d r : Int} : dM ⟨.stay, d, r⟩ = .tup [.str "stay", .int d, .int r] := rfl
theorem dM_turn' {d r : Int} : dM ⟨.turn, d, r⟩ = .tup [.str "turn", .int d, .int r] := rfl
theorem dM_half' {d r : Int} : dM ⟨.half, d, r⟩ = .tup [.str "half", .int d, .int r] := rfl
theorem dM_back' {d r : Int} : dM ⟨.back, d, r⟩ = .tup [.str "back", .int d, .int r] := rfl
/-! letters -/
def abcL (i : Int) : Nat := 97 + i.toNat
theorem abc_cps : (("abcdefghijklmnopqrstuvwxyz" : Str).cps.toList) = (List.range 26).map (97 + ·) := by decide +kernel
theorem idx_abcD {i : Int} {Q : RV → Prop} (h0 : 0 ≤ i) (h1 : i < 26) (q : Q (.val (sgn (abcL i)))) : opIdx (.str "abcdefghijklmnopqrstuvwxyz") (.int i) Q := by
  refine ⟨by decide +kernel, abcL i, ?_, q⟩
  rw [abc_cps]
  refine atI_of (j := i.toNat) (by omega) ?_
  rw [List.getElem?_map, List.getElem?_range (by omega)]
  rfl
/-- one to twenty-six letters -/
structure okLs (ls : List Nat) : Prop where
  pos : 0 < ls.length
  le : ls.length ≤ 26
  ok : ∀ x ∈ ls, 97 ≤ x ∧ x < 123
theorem idx_ints {ms : List Int} {i : Int} {Q : RV → Prop} (h0 : 0 ≤ i) (h1 : i < ms.length) (q : ∀ z : Int, Q (.val (.int z))) : opIdx (.lst (ms.map D.int)) (.int i) Q := by
  obtain ⟨x, hx, hx2⟩ := atI_get (xs := ms) h0 h1
  exact ⟨_, atI_map (f := D.int) hx, q x⟩
theorem len_ints {ms : List Int} {Q : RV → Prop} (q : Q (.val (.int ms.length))) : opLen [.lst (ms.map D.int)] Q := by
  show Q (.val (.int ((ms.map D.int).length : Nat)))
  rw [List.length_map]
  exact q
theorem min2_any {i j : Int} {Q : RV → Prop} (hi : 0 ≤ i) (hj : 0 ≤ j) (q : ∀ z : Int, 0 ≤ z → z ≤ i → Q (.val (.int z))) : opMin2 [.int i, .int j] Q := by
  refine q _ ?_ ?_
  · split <;> omega
  · split <;> omega
def ltF (h : Int → Nat) : D → D
  | .int c => sgn (h c)
  | _ => .non
def ltL (h : Int → Nat) (n : Nat) : List Nat := (List.range n).map fun i => h (i : Nat)
/-! kin -/
def KinU (n : Nat) (f g : Cp) : Option Mv → Prop
  | some m => m.ok n ∧ cpD n (movF n m f) = cpD n g
  | none => ∀ m : Mv, m.ok n → cpD n (movF n m f) ≠ cpD n g
def kinP (n : Nat) (f g : Cp) (d : D) : Bool := decide ((cpD n (movF n (unM d) f)).un = (cpD n g).un)
/-! a knot changed -/
def setC (f : Cp) (r c : Int) (x : Nat) : Cp := updC f r (updG (f r) c x)
theorem idx_hyp {xs : List D} {i : Int} {x : D} {Q : RV → Prop} (h : L2.atI xs i = some x) (q : Q (.val x)) : opIdx (.lst xs) (.int i) Q := ⟨_, h, q⟩
end VN

/-! VL: cells: some rows and a slide -/
namespace VN
open PySem VS PySem.W
/-- m rows of n knots -/
def rcD (m n : Nat) (f : Cp) : D := .tup ((List.range m).map fun r => .str (rowS n (f (r : Nat))))
theorem ok_rc {m n k : Nat} {f : Cp} (h : okC f) : D.okD (k + 1) (rcD m n f) = true := ok_tup (okL_map fun r => ok_row (h _))
/-- a cell laid without end -/
def slF (m n s : Int) (f : Cp) : Cp := fun r c => f (r % m) ((c - s * (r / m)) % n)
end VN

/-! VP: shoves; least cells -/
namespace VN
open PySem VS PySem.W
def enF (n : Int) (f : Cp) : Cp := fun r c => f (r % n) (c % n)
def Sh (n : Nat) (f : Cp) (a b : Int) : Prop := ∀ r c : Int, enF n f (r + a) (c + b) = enF n f r c
def shM (n : Nat) (a b : Int) : Mv := ⟨.stay, a % n, b % n⟩
def shB (n : Nat) (f : Cp) (a b : Int) : Bool := lvB n (shM n a b) f
theorem shM_ok {n : Nat} (hn : 0 < n) (a b : Int) : (shM n a b).ok n := ⟨Int.emod_nonneg _ (by omega), Int.emod_lt_of_pos _ (by omega), Int.emod_nonneg _ (by omega), Int.emod_lt_of_pos _ (by omega)⟩
theorem shB_iff {n : Nat} (hn : 0 < n) (f : Cp) (a b : Int) : shB n f a b = true ↔ Sh n f a b := by
  unfold shB
  rw [lvB_iff hn (shM_ok hn a b) f]
  have e1 : ∀ y x : Int, lR n (shM n a b).w (shM n a b).d y x = (y + a) % n := fun y x => by
    show (y + a % n) % (n : Int) = _
    rw [Int.add_emod_emod]
  have e2 : ∀ y x : Int, lC n (shM n a b).w (shM n a b).r y x = (x + b) % n := fun y x => by
    show (x + b % n) % (n : Int) = _
    rw [Int.add_emod_emod]
  constructor
  · intro h r c
    have := h (r % n) (c % n) (Int.emod_nonneg _ (by omega)) (Int.emod_lt_of_pos _ (by omega)) (Int.emod_nonneg _ (by omega)) (Int.emod_lt_of_pos _ (by omega))
    rw [e1, e2, Int.emod_add_emod, Int.emod_add_emod] at this
    exact this
  · intro h r c h0 h1 h2 h3
    have := h r c
    unfold enF at this
    rw [e1, e2, this, Int.emod_eq_of_lt h0 h1, Int.emod_eq_of_lt h2 h3]
theorem Sh.zero {n : Nat} {f : Cp} : Sh n f 0 0 := fun r c => by rw [Int.add_zero, Int.add_zero]
theorem Sh.add {n : Nat} {f : Cp} {a b a' b' : Int} (h : Sh n f a b) (h' : Sh n f a' b') : Sh n f (a + a') (b + b') := fun r c => by
  rw [← Int.add_assoc, ← Int.add_assoc, h' (r + a) (c + b), h r c]
theorem Sh.neg {n : Nat} {f : Cp} {a b : Int} (h : Sh n f a b) : Sh n f (-a) (-b) := fun r c => by
  have := h (r + -a) (c + -b)
  rw [Int.neg_add_cancel_right, Int.neg_add_cancel_right] at this
  exact this.symm
theorem Sh.nmul {n : Nat} {f : Cp} {a b : Int} (h : Sh n f a b) : ∀ k : Nat, Sh n f ((k : Int) * a) ((k : Int) * b)
  | 0 => by simpa using Sh.zero
  | k + 1 => by
    have := (h.nmul k).add h
    rw [show ((k + 1 : Nat) : Int) = (k : Int) + 1 by omega, Int.add_mul, Int.add_mul, Int.one_mul, Int.one_mul]
    exact this
theorem Sh.mul {n : Nat} {f : Cp} {a b : Int} (h : Sh n f a b) (k : Int) : Sh n f (k * a) (k * b) := by
  obtain ⟨j, rfl | rfl⟩ := Int.eq_nat_or_neg k
  · exact h.nmul j
  · have := (h.nmul j).neg
    rw [Int.neg_mul, Int.neg_mul]
    exact this
theorem Sh.sub {n : Nat} {f : Cp} {a b a' b' : Int} (h : Sh n f a b) (h' : Sh n f a' b') : Sh n f (a - a') (b - b') := by
  rw [Int.sub_eq_add_neg, Int.sub_eq_add_neg]
  exact h.add h'.neg
theorem Sh.n0 {n : Nat} {f : Cp} : Sh n f n 0 := fun r c => by
  unfold enF
  rw [Int.add_zero, Int.add_emod_right]
theorem Sh.on {n : Nat} {f : Cp} : Sh n f 0 n := fun r c => by
  unfold enF
  rw [Int.add_zero, Int.add_emod_right]
/-- the least cell: many rows, a length, a slide -/
structure Lst (n : Nat) (f : Cp) (m l : Nat) (s : Int) : Prop where
  l0 : 0 < l
  ln : l ≤ n
  lS : Sh n f 0 l
  lM : ∀ d : Int, 0 < d → d < l → ¬ Sh n f 0 d
  m0 : 0 < m
  mn : m ≤ n
  s0 : 0 ≤ s
  sl : s < l
  mS : Sh n f m s
  mM : ∀ a : Int, 0 < a → a < m → ∀ b : Int, 0 ≤ b → b < l → ¬ Sh n f a b
theorem Lst.ldvd {n : Nat} {f : Cp} {m l : Nat} {s : Int} (h : Lst n f m l s) {b : Int} (hb : Sh n f 0 b) : b % l = 0 := by
  have l0 := h.l0
  have e : Sh n f 0 (b % l) := by
    have := hb.sub (h.lS.mul (b / l))
    rw [Int.mul_zero, Int.sub_zero, Int.mul_comm] at this
    rw [Int.emod_def]
    exact this
  have h0 := Int.emod_nonneg b (show (l : Int) ≠ 0 by omega)
  have h1 := Int.emod_lt_of_pos b (show 0 < (l : Int) by omega)
  by_cases hz : b % l = 0
  · exact hz
  · exact absurd e (h.lM _ (by omega) h1)
theorem Lst.red {n : Nat} {f : Cp} {m l : Nat} {s : Int} (h : Lst n f m l s) {a b : Int} (hb : Sh n f a b) : Sh n f a (b % l) := by
  have := hb.sub (h.lS.mul (b / l))
  rw [Int.mul_zero, Int.sub_zero, Int.mul_comm] at this
  rw [Int.emod_def]
  exact this
theorem Lst.mdvd {n : Nat} {f : Cp} {m l : Nat} {s : Int} (h : Lst n f m l s) {a b : Int} (hb : Sh n f a b) : a % m = 0 := by
  have l0 := h.l0
  have m0 := h.m0
  have e := h.red (hb.sub (h.mS.mul (a / m)))
  have h0 := Int.emod_nonneg a (show (m : Int) ≠ 0 by omega)
  have h1 := Int.emod_lt_of_pos a (show 0 < (m : Int) by omega)
  rw [Int.mul_comm, ← Int.emod_def] at e
  by_cases hz : a % m = 0
  · exact hz
  · exact absurd e (h.mM _ (by omega) h1 _ (Int.emod_nonneg _ (by omega)) (Int.emod_lt_of_pos _ (by omega)))
theorem emod_diff {l a b : Int} (hl : 0 < l) (h : (a - b) % l = 0) (ha : 0 ≤ a) (ha1 : a < l) (hb : 0 ≤ b) (hb1 : b < l) : a = b := by
  have e1 : a % l = b % l := (Int.emod_eq_emod_iff_emod_sub_eq_zero).mpr h
  rw [Int.emod_eq_of_lt ha ha1, Int.emod_eq_of_lt hb hb1] at e1
  exact e1
theorem Lst.slide {n : Nat} {f : Cp} {m l : Nat} {s : Int} (h : Lst n f m l s) {a b b' : Int} (h1 : Sh n f a b) (h2 : Sh n f a b') : (b - b') % l = 0 := by
  have := h1.sub h2
  rw [Int.sub_self] at this
  exact h.ldvd this
theorem Lst.slide_eq {n : Nat} {f : Cp} {m l : Nat} {s : Int} (h : Lst n f m l s) {b : Int} (h1 : Sh n f m b) (hb : 0 ≤ b) (hb1 : b < l) : b = s :=
  emod_diff (by have := h.l0; omega) (h.slide h1 h.mS) hb hb1 h.s0 h.sl
theorem Lst.dn {n : Nat} {f : Cp} {m l : Nat} {s : Int} (h : Lst n f m l s) : (n : Int) % m = 0 ∧ (n : Int) % l = 0 := ⟨h.mdvd Sh.n0, h.ldvd Sh.on⟩
/-! how many shoves -/
def resP (l b : Int) : D → Bool
  | .int c => decide (c % l = b)
  | _ => false
theorem count_res : ∀ n ∈ List.range 9, ∀ l ∈ List.range 9, 0 < l → n % l = 0 → ∀ b ∈ List.range 9, b < l → ((rgD 0 n).filter (resP l b)).length * l = n := by decide +kernel
def shP (n : Nat) (f : Cp) (a : Int) : D → Bool
  | .int c => shB n f a c
  | _ => false
theorem Lst.count {n : Nat} {f : Cp} {m l : Nat} {s : Int} (hn : 0 < n) (h8 : n ≤ 8) (h : Lst n f m l s) (a : Int) : ((rgD 0 n).filter (shP n f a)).length * l = if a % m = 0 then n else 0 := by
  have l0 := h.l0
  have ln := h.ln
  have m0 := h.m0
  have hd := h.dn.2
  split
  · rename_i hz
    have e0 : Sh n f a (s * (a / m) % l) := by
      have := h.red (h.mS.mul (a / m))
      rw [Int.mul_comm, Int.mul_ediv_cancel' (Int.dvd_of_emod_eq_zero hz), Int.mul_comm] at this
      exact this
    generalize hb : s * (a / m) % (l : Int) = b at e0
    have hb0 : 0 ≤ b := by rw [← hb]; exact Int.emod_nonneg _ (by omega)
    have hb1 : b < l := by rw [← hb]; exact Int.emod_lt_of_pos _ (by omega)
    have := count_res n (List.mem_range.mpr (by omega)) l (List.mem_range.mpr (by omega)) l0 (by omega) b.toNat (List.mem_range.mpr (by omega)) (by omega)
    have hf : (rgD 0 n).filter (shP n f a) = (rgD 0 n).filter (resP l b.toNat) := by
     refine List.filter_congr fun d hd => ?_
     obtain ⟨c, hc, rfl⟩ := mem_rg hd
     show shB n f a (0 + (c : Int)) = decide ((0 + (c : Int)) % (l : Int) = ((b.toNat : Nat) : Int))
     rw [Bool.eq_iff_iff, shB_iff hn, decide_eq_true_iff]
     constructor
     · intro hs
       have := h.slide hs e0
       rw [show ((b.toNat : Nat) : Int) = b by omega]
       have e1 := (Int.emod_eq_emod_iff_emod_sub_eq_zero).mpr this
       rw [e1, Int.emod_eq_of_lt hb0 hb1]
     · intro e
       have e1 : (0 + (c : Int)) = b + (l : Int) * ((0 + (c : Int)) / l) := by
         have := Int.emod_add_mul_ediv (0 + (c : Int)) l
         rw [e] at this
         omega
       have := e0.add (h.lS.mul ((0 + (c : Int)) / l))
       rw [Int.mul_zero, Int.add_zero, Int.mul_comm, ← e1] at this
       exact this
    rw [hf]
    exact this
  · rename_i hz
    have : (rgD 0 n).filter (shP n f a) = [] := by
      rw [List.filter_eq_nil_iff]
      intro d hd
      obtain ⟨c, hc, rfl⟩ := mem_rg hd
      show ¬ shB n f a (0 + (c : Int)) = true
      rw [shB_iff hn]
      exact fun z => hz (h.mdvd z)
    rw [this]; simp
def cntN (n : Nat) (f : Cp) (r : Nat) : Nat := ((rgD 0 n).filter (shP n f (r : Nat))).length
def everyN (n : Nat) (f : Cp) (k : Nat) : Nat := ((List.range k).map (cntN n f)).sum
theorem everyN_succ (n : Nat) (f : Cp) (k : Nat) : everyN n f (k + 1) = everyN n f k + cntN n f k := by
  unfold everyN
  rw [List.range_succ, List.map_append, List.sum_append]
  simp
theorem rg_succ (k : Nat) : rgD 0 (k + 1) = rgD 0 k ++ [.int k] := by
  unfold rgD
  rw [List.range_succ, List.map_append]
  simp
theorem Lst.every {n : Nat} {f : Cp} {m l : Nat} {s : Int} (hn : 0 < n) (h8 : n ≤ 8) (h : Lst n f m l s) : ∀ k : Nat, everyN n f k * l = ((rgD 0 k).filter (resP m 0)).length * n
  | 0 => by simp [everyN, rgD]
  | k + 1 => by
    have ih := h.every hn h8 k
    have hc := h.count hn h8 (k : Int)
    rw [everyN_succ, Nat.add_mul, ih, rg_succ, List.filter_append, List.length_append, Nat.add_mul]
    congr 1
    show cntN n f k * l = _
    unfold cntN
    rw [hc]
    by_cases hz : (k : Int) % m = 0
    · rw [if_pos hz, List.filter_cons_of_pos (by show decide ((k : Int) % m = 0) = true; exact decide_eq_true hz)]
      simp
    · rw [if_neg hz, List.filter_cons_of_neg (by show ¬ decide ((k : Int) % m = 0) = true; simp [hz])]
      simp
theorem Lst.total {n : Nat} {f : Cp} {m l : Nat} {s : Int} (hn : 0 < n) (h8 : n ≤ 8) (h : Lst n f m l s) : (everyN n f n : Int) * m * l = (n : Int) * n := by
  have m0 := h.m0
  have mn := h.mn
  have h1 := h.every hn h8 n
  have h2 := count_res n (List.mem_range.mpr (by omega)) m (List.mem_range.mpr (by omega)) m0 (by have := h.dn.1; omega) 0 (by decide) m0
  have h3 : everyN n f n * m * l = n * n := by
    rw [Nat.mul_assoc, Nat.mul_comm m l, ← Nat.mul_assoc, h1, Nat.mul_assoc, Nat.mul_comm n m, ← Nat.mul_assoc]
    have h2' : ((rgD 0 n).filter (resP m 0)).length * m = n := h2
    rw [h2']
  have := congrArg (fun x : Nat => (x : Int)) h3
  simpa using this
/-! cells -/
def Drw (n : Nat) (f : Cp) (M L : Nat) (s : Int) (g : Cp) : Prop := ∀ r c : Int, slF M L s g r c = enF n f r c
def agr (n : Nat) (f : Cp) (M L : Nat) (g : Cp) : Prop := ∀ r c : Int, 0 ≤ r → r < M → 0 ≤ c → c < L → g r c = enF n f r c
/-! the search of the least -/
def optI : Option Int → D
  | none => .non
  | some s => .int s
def SlideU (n : Nat) (f : Cp) (a : Int) (l : Nat) : Option Int → Prop
  | some s => 0 ≤ s ∧ s < l ∧ Sh n f a s
  | none => ∀ b : Int, 0 ≤ b → b < l → ¬ Sh n f a b
def cutF (l : Int) : D → D
  | .str z => .str (L2.cutS z none (some l))
  | d => d
/-- what the law gathers: at row i (counted from nought: a = 1 + i) ahead of far j -/
structure HeadOf (m : Nat) (s : Int) (L : List D) (i j l : Nat) : Prop where
  len : L.length ≤ i * l + j
  lo : (i + 1 < m ∨ (i + 1 = m ∧ (j : Int) ≤ s)) → L = []
  hi : ¬ (i + 1 < m ∨ (i + 1 = m ∧ (j : Int) ≤ s)) → L[0]? = some (.tup [.int m, .int s])
theorem HeadOf.nil {m : Nat} {s : Int} {l : Nat} (m0 : 0 < m) (s0 : 0 ≤ s) : HeadOf m s [] 0 0 l := ⟨by simp, fun _ => rfl, fun h => absurd (by omega) h⟩
theorem HeadOf.last {m n : Nat} {s : Int} {L : List D} {l : Nat} (h : HeadOf m s L n 0 l) (mn : m ≤ n) : L2.atI L 0 = some (.tup [.int m, .int s]) := atI_of (j := 0) rfl (h.hi (by omega))
theorem HeadOf.row {m : Nat} {s : Int} {L : List D} {i l : Nat} (h : HeadOf m s L i l l) (s0 : 0 ≤ s) (sl : s < l) : HeadOf m s L (i + 1) 0 l := ⟨by rw [Nat.succ_mul]; exact h.len, fun z => h.lo (by omega), fun z => h.hi (by omega)⟩
theorem HeadOf.skip {m : Nat} {s : Int} {L : List D} {i j l : Nat} (h : HeadOf m s L i j l) (hn : (1 + (i : Int)) = m → (j : Int) = s → False) : HeadOf m s L i (j + 1) l := ⟨by have := h.len; omega, fun z => h.lo (by omega), fun z => h.hi fun z2 => by
  by_cases e : i + 1 = m ∧ (j : Int) = s
  · exact hn (by omega) e.2
  · omega⟩
theorem Lst.first {n : Nat} {f : Cp} {m l : Nat} {s : Int} (h : Lst n f m l s) {i j : Nat} (hs : Sh n f (1 + (i : Int)) (0 + (j : Int))) (hj : j < l) (_ : i < n) (_ : 0 < n) : ¬ (i + 1 < m ∨ (i + 1 = m ∧ (j : Int) < s)) := by
  rw [Int.zero_add] at hs
  rintro (h1 | ⟨h1, h2⟩)
  · exact h.mM _ (by omega) (by omega) _ (by omega) (by omega) hs
  · rw [show 1 + (i : Int) = m by omega] at hs
    have := h.slide_eq hs (by omega) (by omega)
    omega
theorem agr_self {n : Nat} {f : Cp} {M L : Nat} (hM : M ≤ n) (hL : L ≤ n) : agr n f M L f := fun r c h0 h1 h2 h3 => by
  unfold enF
  rw [Int.emod_eq_of_lt h0 (by omega), Int.emod_eq_of_lt h2 (by omega)]
def CellI (n : Nat) (f : Cp) (M L : Nat) (s : Int) (g : Cp) (b : Bool) : Prop := b = true ↔ agr n f M L g ∧ Sh n f 0 L ∧ Sh n f M s
theorem Lst.cell {n : Nat} {f : Cp} {m l : Nat} {s : Int} (h : Lst n f m l s) {b : Bool} (hb : CellI n f m l s f b) : b = true := hb.mpr ⟨agr_self h.mn h.ln, h.lS, h.mS⟩
theorem Lst.other {n : Nat} {f : Cp} {m l : Nat} {s : Int} (h : Lst n f m l s) {s' : Int} {b : Bool} (h0 : 0 ≤ s') (h1 : s' < l) (hne : s' ≠ s) (hb : CellI n f m l s' f b) : b = false := by
  cases b with
  | false => rfl
  | true => exact absurd (h.slide_eq (hb.mp rfl).2.2 h0 h1) hne
def dblF : D → D
  | .str z => .str (z ++ z)
  | d => d
def DrwI (n : Nat) (f : Cp) (M L : Nat) (s : Int) (g : Cp) (b : Bool) : Prop := b = true ↔ Drw n f M L s g
/-- a cell among those tried -/
def CellD (d : D) : Prop := ∃ (M L : Nat) (s : Int) (g : Cp), 0 < M ∧ M ≤ 8 ∧ 0 < L ∧ L ≤ 8 ∧ 0 ≤ s ∧ s ≤ 100 ∧ d = .tup [rcD M L g, .int s]
end VN

/-! VQ: circles, seeds, what is grown -/
namespace VN
open PySem VS PySem.W
theorem CInv.one {n : Nat} {L : List Mv} {p : Pl} (hp : p ∈ allP n) : CInv (ledP n) L [p] (allP n) [p] [p] (2 * (allP n).length - 1) := by
  have := CInv.init (st := ledP n) (L := L) (B := []) (U := allP n) (a := p) (by simp) (by simp) (by simp) (by simpa using hp)
  simpa using this
/-- the circles whose roots are ahead of (i, j) -/
noncomputable def preR (n : Nat) (L : List Mv) (i j : Nat) : List Pl := (preP n i j).filter fun p => decide (rootP n L p = p)
/-! what is grown -/
def pairD (q : Pl × Nat) : D := .tup [dP q.1, sgn q.2]
/-- S tells for each circle a knot of g -/
structure Gs (n : Nat) (L : List Mv) (S : List (Pl × Nat)) (g : Cp) : Prop where
  inp : ∀ q ∈ S, q.1 ∈ allP n
  eq : ∀ q ∈ S, ∀ p, RchP n L q.1 p → g p.1 p.2 = q.2
  cov : ∀ p ∈ allP n, ∃ q ∈ S, RchP n L q.1 p
def gD (g : Cp) : Pl → D := fun p => sgn (g p.1 p.2)
/-- the places coloured: by the S of T, and by those of C -/
structure GrI (n : Nat) (L : List Mv) (T : List (Pl × Nat)) (C F : List Pl) : Prop where
  nd : F.Nodup
  mem : ∀ p, p ∈ F ↔ (∃ q ∈ T, RchP n L q.1 p) ∨ p ∈ C
  inn : ∀ p ∈ F, p ∈ allP n
theorem GrI.zero {n : Nat} {L : List Mv} : GrI n L [] [] [] := ⟨by simp, by simp, by simp⟩
theorem GrI.len {n : Nat} {L : List Mv} {T : List (Pl × Nat)} {C F : List Pl} (h : GrI n L T C F) : F.length ≤ n * n := by
  rw [← allP_len n]
  exact nodup_le' h.nd h.inn
theorem GrI.next {n : Nat} {L : List Mv} {T : List (Pl × Nat)} {q : Pl × Nat} {F : List Pl} (hn : 0 < n) (hq : q.1 ∈ allP n) (h : GrI n L T (circP n L q.1) F) : GrI n L (T ++ [q]) [] F := by
  refine ⟨h.nd, fun p => ?_, h.inn⟩
  rw [h.mem, mem_circP]
  constructor
  · rintro (⟨r, h1, h2⟩ | ⟨h1, h2⟩)
    · exact .inl ⟨r, List.mem_append_left _ h1, h2⟩
    · exact .inl ⟨q, by simp, h2⟩
  · rintro (⟨r, h1, h2⟩ | h1)
    · rcases List.mem_append.mp h1 with h1 | h1
      · exact .inl ⟨r, h1, h2⟩
      · rw [List.mem_singleton.mp h1] at h2
        exact .inr ⟨rchP_in hn hq h2, h2⟩
    · exact absurd h1 (by simp)
theorem GrI.put {n : Nat} {L : List Mv} {T : List (Pl × Nat)} {C F : List Pl} {g : Cp} {p : Pl} (h : GrI n L T C F) (hp : p ∈ allP n) : ∃ F', GrI n L T (C ++ [p]) F' ∧ dput (kvA dP (gD g) F) (dP p) (gD g p) = kvA dP (gD g) F' := by
  by_cases hin : p ∈ F
  · refine ⟨F, ⟨h.nd, fun x => ?_, h.inn⟩, kvA_put_in dP_inj hin⟩
    rw [h.mem, List.mem_append, List.mem_singleton]
    constructor
    · rintro (k | k)
      · exact .inl k
      · exact .inr (.inl k)
    · rintro (k | k | k)
      · exact .inl k
      · exact .inr k
      · rw [k]; exact (h.mem p).mp hin
  · refine ⟨F ++ [p], ⟨?_, fun x => ?_, fun x hx => ?_⟩, kvA_put dP_inj hin⟩
    · rw [List.nodup_append]
      exact ⟨h.nd, by simp, fun a ha b hb e => hin (by rw [List.mem_singleton] at hb; rw [← hb, ← e]; exact ha)⟩
    · rw [List.mem_append, h.mem, List.mem_append, List.mem_singleton]
      constructor
      · rintro ((k | k) | k)
        · exact .inl k
        · exact .inr (.inl k)
        · exact .inr (.inr k)
      · rintro (k | k | k)
        · exact .inl (.inl k)
        · exact .inl (.inr k)
        · exact .inr k
    · rcases List.mem_append.mp hx with hx | hx
      · exact h.inn x hx
      · rw [List.mem_singleton.mp hx]; exact hp
theorem GrI.all {n : Nat} {L : List Mv} {S : List (Pl × Nat)} {F : List Pl} {g : Cp} (h : GrI n L S [] F) (hS : Gs n L S g) {p : Pl} (hp : p ∈ allP n) : dget (kvA dP (gD g) F) (dP p) = some (gD g p) :=
  kvA_in dP_inj ((h.mem p).mpr (.inl (hS.cov p hp)))
/-! what leaves keeps the knots of a circle -/
/-! a knot for each root -/
noncomputable def rk (n : Nat) (L : List Mv) (k : Nat) : Pl := (rootsL n L).getD k (0, 0)
noncomputable def SX (n : Nat) (L : List Mv) (ch : Nat → Nat) : List (Pl × Nat) := (List.range (rootsL n L).length).map fun k => (rk n L k, ch k)
noncomputable def gX (n : Nat) (L : List Mv) (ch : Nat → Nat) : Cp := fun r c => ch ((rootsL n L).idxOf (rootP n L (r, c)))
def putN (ch : Nat → Nat) (a x : Nat) : Nat → Nat := fun k => if k = a then x else ch k
def dueF (f : Cp) : D → D
  | .lst (.tup [.int r, .int c] :: _) => .tup [dPl r c, sgn (f r c)]
  | d => d
def chN (ns : List Int) (k : Nat) : Nat := 97 + (mixA (cellAt ns (7 + (0 + (k : Int)))) (90 + (0 + (k : Int))) % 5).toNat
end VN

/-! VR: ways that bend, wide movements, mirrors, loose ones -/
namespace VN
open PySem VS PySem.W
def wD (w : Way) : D := .str w.str
def bW : List Way := [.cross, .flip, .other, .side]
def inW (L : List Mv) (w : Way) : Bool := L.any fun m => decide (m.w = w)
def wayF : D → D
  | .tup (w :: _) => w
  | d => d
@[irreducible] def turnL (L : List Mv) : Int := if inW L .turn = true then 4 else if inW L .half = true then 2 else 1
@[irreducible] def bendL (L : List Mv) : List Way := bW.filter (inW L)
def redM (n : Int) (m : Mv) : Mv := ⟨m.w, m.d % n, m.r % n⟩
def wideB (n : Int) (L : List Mv) (m : Mv) : Bool := decide (redM n m ∈ L)
@[irreducible] def wideL (n : Nat) (L : List Mv) : List Mv := (allOf (bendL L) (2 * n)).filter (wideB n L)
def inWayQ (L : List Mv) : D → Bool := fun d => decide (d ∈ L.map fun m => wD m.w)
/-! mirrors -/
def mirS (n : Int) (F : List Mv) (m : Mv) : List Mv := if (F.any fun x => decide (x.w = m.w)) = false ∧ mirB n m = true then F ++ [m] else F
@[irreducible] def mirL (n : Nat) (L : List Mv) : List Mv := (wideL n L).foldl (mirS n) []
def optIn (L : List Mv) : Option Mv → Bool
  | some x => decide (x ∈ L)
  | none => false
@[irreducible] def stIn (n : Int) (L : List Mv) (m : Mv) : Bool := optIn L (standM n m)
@[irreducible] def looseL (n : Nat) (L : List Mv) : Option Mv := (wideL n L).find? fun m => !stIn n L m
def mirW (n : Nat) (L : List Mv) (w : Way) : List Mv := ((wideL n L).filter fun m => decide (m.w = w) && mirB n m).take 1
abbrev paperD (n : Nat) (L : List Mv) : D := .tup [.int (turnL L), .lst ((bendL L).map wD), .lst ((mirL n L).map dM), optM (looseL n L)]
/-- a turn, twice, is half -/
def HalfOk (L : List Mv) : Prop := inW L .turn = true → inW L .half = true
end VN

/-! VV: kinds -/
namespace VN
open PySem VS PySem.W
def thnZ (a b : Mv) : Mv := ⟨mulW a.w b.w, gR b.w a.d a.r + b.d, gC b.w a.d a.r + b.r⟩
def invZ (a : Mv) : Mv := ⟨invW a.w, -gR (invW a.w) a.d a.r, -gC (invW a.w) a.d a.r⟩
def conjN (n : Int) (g m : Mv) : Mv := thn n (thn n (inv n g) m) g
def conjZ (g m : Mv) : Mv := thnZ (thnZ (invZ g) m) g
def cW (v w : Way) : Way := mulW (mulW (invW v) w) v
def cWr (v w : Way) : Way := cW (invW v) w
/-! what tells a mirror -/
def mphi (m : Mv) : Int := match m.w with
  | .side => m.d
  | .flip => m.r
  | .cross => m.d + m.r
  | .other => m.d - m.r
  | _ => 1
/-! stands -/
def standZ (m : Mv) : Option Mv := if (m.d - gR m.w m.d m.r) % 2 = 1 ∨ (m.r - gC m.w m.d m.r) % 2 = 1 then none else some ⟨m.w, (m.d - gR m.w m.d m.r) / 2, (m.r - gC m.w m.d m.r) / 2⟩
/-! kinds -/
def wordF (t : Int) (b : Bool) (k : Nat) (l : Bool) : Str :=
  if b = true then (if t = 4 then "p4" else if t = 2 then "p2" else "p1") else
  if t = 4 then (if k = 4 then "p4m" else "p4g") else
  if t = 1 then (if k = 0 then "pg" else if l = true then "pm" else "cm") else
  if k = 0 then "pgg" else if k = 1 then "pmg" else if l = true then "pmm" else "cmm"
def kindL (n : Nat) (L : List Mv) : Str := wordF (turnL L) (bendL L).isEmpty (mirL n L).length (looseL n L).isNone
def hasMir (n : Nat) (L : List Mv) (w : Way) : Bool := (wideL n L).any fun m => decide (m.w = w) && mirB n m
def hasLoose (n : Nat) (L : List Mv) : Bool := (wideL n L).any fun m => !stIn n L m
structure Sim (n : Nat) (E : List Mv) (n' : Nat) (E' : List Mv) (v : Way) : Prop where
  w : ∀ w, inW E' (cW v w) = inW E w
  m : ∀ w, hasMir n' E' (cW v w) = hasMir n E w
  l : hasLoose n' E' = hasLoose n E
/-- turn and back come together -/
def TB (E : List Mv) : Prop := inW E .turn = inW E .back
def WC (E : List Mv) : Prop := ∀ a b, inW E a = true → inW E b = true → inW E (mulW a b) = true
def conjF (n : Int) (g : Mv) : D → D := fun d => dM (conjN n g (unM d))
end VN

/-! VSV: x = [..] where x is a cell -/
namespace VS
open PySem PySem.Spec L2
variable {c : Cfg} {scope : Scope}
def cellB (sc : Scope) (y : Str) : Bool := match sc.names.lookup y with | some .cell => true | _ => false
end VS

/-! VSW: x = f(..), looked at; then lists within x changed, and x left -/
namespace VS
open PySem PySem.Spec L2
/-! ### data without lists -/
mutual
def D.tO : D → Bool
  | .non => true
  | .bl _ => true
  | .int _ => true
  | .str _ => true
  | .ty _ => true
  | .tup xs => D.tOL xs
  | .ktup xs => D.tOL xs
  | _ => false
  termination_by structural d => d
def D.tOL : List D → Bool
  | [] => true
  | d :: ds => D.tO d && D.tOL ds
  termination_by structural d => d
end
def tupsH (G : Hp) : Hp := fun a => match G a with
  | some (.tup vs) => some (.tup vs)
  | _ => none
mutual
theorem Rep.tO {K : PySem.W.Frag} {w : World} {G : Hp} : ∀ {v : V} {d : D}, Rep K w G v d → d.tO = true → Rep K w (tupsH G) v d
  | _, _, .non, _ => .non
  | _, _, .bl b, _ => .bl b
  | _, _, .int i, _ => .int i
  | _, _, .str x, _ => .str x
  | _, _, .ty n, _ => .ty n
  | _, _, .tup q r, h => .tup (by unfold tupsH; rw [q]) (RepL.tO r (by simpa only [D.tO] using h))
  | _, _, .ktup q r, h => .ktup q (RepL.tO r (by simpa only [D.tO] using h))
  | _, _, .lst _ _, h => by simp [D.tO] at h
  | _, _, .dicK _ _, h => by simp [D.tO] at h
  | _, _, .dicT _ _, h => by simp [D.tO] at h
  | _, _, .dicC _, h => by simp [D.tO] at h
  | _, _, .exc _ _ _ _, h => by simp [D.tO] at h
  | _, _, .dix _ _, h => by simp [D.tO] at h
  | _, _, .ins _ _ _ _, h => by simp [D.tO] at h
theorem RepL.tO {K : PySem.W.Frag} {w : World} {G : Hp} : ∀ {v : List V} {d : List D}, RepL K w G v d → D.tOL d = true → RepL K w (tupsH G) v d
  | _, _, .nil, _ => .nil
  | _, _, .cons q r, h => by
    simp only [D.tOL, Bool.and_eq_true] at h
    exact .cons (Rep.tO q h.1) (RepL.tO r h.2)
end
def topO : D → Bool
  | .lst xs => D.tOL xs
  | d => d.tO
theorem RD.tO {K : PySem.W.Frag} {w : World} {H G : Hp} {v : V} {d : D} (h : RD K w H G v d) (ho : topO d = true) : RD K w H (tupsH G) v d := by
  cases d with
  | lst ds => obtain ⟨a, vs, e, q, r⟩ := h; exact ⟨a, vs, e, q, r.tO ho⟩
  | dic b ds => simp [topO, D.tO] at ho
  | tup ds => exact Rep.tO h ho
  | ktup ds => exact Rep.tO h ho
  | kdic ds => simp [topO, D.tO] at ho
  | exc x ds => simp [topO, D.tO] at ho
  | dix ds => simp [topO, D.tO] at ho
  | ins x ds => simp [topO, D.tO] at ho
  | non => exact Rep.tO h ho
  | bl b => exact Rep.tO h ho
  | int b => exact Rep.tO h ho
  | str b => exact Rep.tO h ho
  | ty b => exact Rep.tO h ho
def argO : List Bool → List D → Bool
  | true :: ms, d :: ds => topO d && argO ms ds
  | false :: ms, d :: ds => d.tO && argO ms ds
  | _, _ => true
theorem ArgsR.tO {K : PySem.W.Frag} {w : World} {G H : Hp} : ∀ {ms : List Bool} {vs : List V} {ds : List D}, ArgsR K w G H ms vs ds → argO ms ds = true → ArgsR K w (tupsH G) H ms vs ds
  | _, _, _, .nil, _ => .nil
  | _, _, _, .bor q r, h => by
    simp only [argO, Bool.and_eq_true] at h
    exact .bor (q.tO h.1) (ArgsR.tO r h.2)
  | _, _, _, .val q r, h => by
    simp only [argO, Bool.and_eq_true] at h
    exact .val (q.tO h.1) (ArgsR.tO r h.2)
/-! ### the region -/
def uni (G A : Hp) : Hp := fun a => match G a with
  | some o => some o
  | none => A a
def scal : D → Bool
  | .non => true
  | .bl _ => true
  | .int _ => true
  | .str _ => true
  | _ => false
theorem Rep.scal {K : PySem.W.Frag} {w : World} {G G' : Hp} {v : V} {d : D} (h : Rep K w G v d) (s : VS.scal d = true) : Rep K w G' v d := by
  cases h <;> first | exact .non | exact .bl _ | exact .int _ | exact .str _ | (simp [VS.scal] at s)
def lendS : Slot → Slot
  | .own d => .bor d
  | .val d => .bor d
  | s => s
def lendE (env : Env) : Env := env.map lendS
def backS (s0 s : Slot) : Slot := match s with
  | .bor _ => s0
  | .val d => if scal d = true then .val d else .emp
  | _ => .emp
def backE (e0 env : Env) : Env := List.zipWith backS e0 env
variable {c : Cfg}
theorem RepEnv.up {G B H H' : Hp} {σ : St} {env : Env} (E : RepEnv c G B H σ env) (s : Same H H') : RepEnv c G B H' σ env where
  gh := E.gh.trans s
  bh := E.bh.trans s
  len := E.len
  val := E.val
  own := fun i d e => by
    obtain ⟨a, o, h1, h2, h3, h4, h5⟩ := E.own i d e
    exact ⟨a, o, h1, h2, h3, s _ _ h4, h5⟩
  bor := E.bor
  dis := E.dis
/-! ### the second part: lists within are changed -/
def PreO (k : Nat) (o : HO) (o' : Option HO) : Prop := match o with
  | .lst vs => ∃ ws, o' = some (.lst (vs ++ ws)) ∧ ws.length ≤ k
  | o => o' = some o
structure DSt (c : Cfg) (G B A H : Hp) (σ : St) (env : Env) (i : Nat) (v : V) (d : D) (k : Nat) : Prop where
  E : RepEnv c G B H σ env
  a : Rep c.K c.w A v d
  pre : ∀ b o, A b = some o → PreO k o (H b)
  dg : ∀ b vs, A b = some (.lst vs) → G b = none ∧ B b = none
  dow : ∀ (j : Nat) (d' : D) (b : Addr), env[j]? = some (Slot.own d') → σ[j]? = some (some (V.ref b)) → A b = none
  vi : σ[i]? = some (some v)
open Classical in
noncomputable def prot (A H B : Hp) : Hp := fun b => if A b = none then B b else H b
theorem DSt.lend {G B A H : Hp} {σ : St} {env : Env} {i k : Nat} {v : V} {d : D} (S : DSt c G B A H σ env i v d k) : RepEnv c G (prot A H B) H σ env := by
  have sb : Same B (prot A H B) := fun b o e => by
    unfold prot
    split
    · exact e
    · exact S.E.bh b o e
  refine ⟨S.E.gh, fun b o e => ?_, S.E.len, S.E.val, fun j d' e => ?_, fun j d' e => ?_, S.E.dis⟩
  · unfold prot at e
    split at e
    · exact S.E.bh b o e
    · exact e
  · obtain ⟨b, o, h1, h2, h3, h4, h5⟩ := S.E.own j d' e
    refine ⟨b, o, h1, h2, ?_, h4, h5⟩
    unfold prot
    rw [if_pos (S.dow j d' b e h1)]
    exact h3
  · obtain ⟨u, h1, h2⟩ := S.E.bor j d' e
    exact ⟨u, h1, h2.mono sb (Same.refl _)⟩
theorem DSt.backB {G G' B A H H' : Hp} {σ σ' : St} {env env' : Env} {i k : Nat} {v : V} {d : D} (S : DSt c G B A H σ env i v d k) (E' : RepEnv c G' (prot A H B) H' σ' env') (x : Ext (prot A H B) G G') (b : BorS env env' σ σ') (vi' : σ'[i]? = some (some v)) : DSt c G' B A H' σ' env' i v d k ∧ Ext B G G' := by
  have sb : Same B (prot A H B) := fun b o e => by
    unfold prot
    split
    · exact e
    · exact S.E.bh b o e
  have inH : ∀ b o, A b = some o → ∃ o', H b = some o' := fun b o e => by
    have hp := S.pre b o e
    unfold PreO at hp
    split at hp
    · obtain ⟨ws, h1, _⟩ := hp; exact ⟨_, h1⟩
    · exact ⟨_, hp⟩
  have hA : ∀ b o, A b = some o → H' b = H b := fun b o e => by
    obtain ⟨o', ho⟩ := inH b o e
    have : prot A H B b = some o' := by unfold prot; rw [if_neg (by rw [e]; simp)]; exact ho
    rw [ho]; exact E'.bh b o' this
  refine ⟨⟨⟨E'.gh, sb.trans E'.bh, E'.len, E'.val, fun j d' e => ?_, fun j d' e => ?_, E'.dis⟩, S.a, fun b o e => ?_, fun b vs e => ?_, fun j d' a e1 e2 => ?_, vi'⟩, x.less sb⟩
  · obtain ⟨a, o, h1, h2, h3, h4, h5⟩ := E'.own j d' e
    exact ⟨a, o, h1, h2, sb.free h3, h4, h5⟩
  · obtain ⟨z1, z2⟩ := b j d' e
    obtain ⟨u, h1, h2⟩ := S.E.bor j d' z1
    exact ⟨u, by rw [z2]; exact h1, h2.mono (Same.refl _) x.1⟩
  · rw [hA b o e]; exact S.pre b o e
  · obtain ⟨h1, h2⟩ := S.dg b vs e
    refine ⟨?_, h2⟩
    obtain ⟨ws, h3, _⟩ := S.pre b _ e
    refine x.none h1 ⟨.lst (vs ++ ws), ?_, rfl⟩
    unfold prot
    rw [if_neg (by rw [e]; simp)]
    exact h3
  · obtain ⟨a', o, h1, h2, h3, h4, h5⟩ := E'.own j d' e1
    rw [e2] at h1
    cases h1
    cases hq : A a with
    | none => rfl
    | some o' =>
      exfalso
      obtain ⟨o2, ho⟩ := inH a o' hq
      unfold prot at h3
      rw [if_neg (by rw [hq]; simp), ho] at h3
      cases h3
theorem DSt.back {G G' B A H H' : Hp} {σ : St} {env : Env} {i k : Nat} {v : V} {d : D} (S : DSt c G B A H σ env i v d k) (E' : RepEnv c G' (prot A H B) H' σ env) (x : Ext (prot A H B) G G') : DSt c G' B A H' σ env i v d k ∧ Ext B G G' := S.backB E' x (BorS.refl _ _) S.vi
theorem noTakes {X : Cx} {G B G1 B1 : Hp} {σ σ1 : St} {env e1 : Env} {Xq : XQ} (tk : TakesC c X (WXo c G B σ env Xq)) : TakesC c X (WXo c G1 B1 σ1 e1 noX) := tk.imp fun _ _ _ _ ⟨_, _, _, q, _⟩ => q.elim
/-! paths -/
structure PTH (c : Cfg) (e : Expr) (i : Nat) (f : Env → D → Option D) : Prop where
  run : ∀ (X : Cx), Good c X → ∀ (G B A H : Hp) (σ : St) (env : Env) (v : V) (d : D) (k : Nat) (d' : D) (Xq : XQ) (Q : VK), DSt c G B A H σ env i v d k → f env d = some d' → TakesC c X (WXo c G B σ env Xq) →
    (∀ v' G' H', DSt c G' B A H' σ env i v d k → Ext B G G' → Rep c.K c.w A v' d' → Q v' H') → TU X e σ H Q
def atD (n : Nat) : D → Option D
  | .lst xs => xs[n]?
  | .tup xs => xs[n]?
  | _ => none
def keyD? (ks : D) : D → Option D
  | .dic true kvs => dget kvs ks
  | _ => none
/-- statements of the second part -/
structure VD2 (c : Cfg) (i : Nat) (sts : List Stmt) (u : EndsD → Env → D → Nat → Prop) : Prop where
  run : ∀ (X : Cx), Good c X → ∀ (G B A H : Hp) (σ : St) (env : Env) (v : V) (d : D) (k : Nat) (D : EndsD), DSt c G B A H σ env i v d k → u D env d k → TakesC c X (WXo c G B σ env D.xq) → TUss X sts (EndsOf c G B σ env D) σ H
theorem DSt.put {G B A H : Hp} {σ : St} {env : Env} {i k m : Nat} {v : V} {d : D} {b : Addr} {vs : List V} {xs : List V} (S : DSt c G B A H σ env i v d k) (hb : A b = some (.lst vs)) : RepEnv c G B (upd H b (.lst xs)) σ env := by
  obtain ⟨h1, h2⟩ := S.dg b vs hb
  have keep : ∀ {F : Hp}, Same F H → F b = none → Same F (upd H b (.lst xs)) := fun {F} s n a u e => by
    have ne : a ≠ b := ne_of_none e n
    rw [upd_ne ne]
    exact s a u e
  refine ⟨keep S.E.gh h1, keep S.E.bh h2, S.E.len, S.E.val, fun j d' e => ?_, S.E.bor, S.E.dis⟩
  obtain ⟨a, o, k1, k2, k3, k4, k5⟩ := S.E.own j d' e
  have ne : a ≠ b := fun z => by
    have := S.dow j d' a e k1
    rw [z, hb] at this
    cases this
  exact ⟨a, o, k1, k2, k3, by rw [upd_ne ne]; exact k4, k5⟩
/-! ### the first part: reading -/
structure DS1 (c : Cfg) (G B A Gu HB H : Hp) (σ : St) (e0 env : Env) (i : Nat) (v : V) (d : D) : Prop where
  E0 : RepEnv c G B HB σ (backE e0 env)
  El : RepEnv c Gu HB H σ env
  len : e0.length = env.length
  a : Rep c.K c.w A v d
  aH : Same A HB
  dg : ∀ b vs, A b = some (.lst vs) → G b = none ∧ B b = none
  dow : ∀ (j : Nat) (d' : D) (b : Addr), (backE e0 env)[j]? = some (Slot.own d') → σ[j]? = some (some (V.ref b)) → A b = none
  vi : σ[i]? = some (some v)
  bi : env[i]? = some (.bor d)
structure VD1 (c : Cfg) (i : Nat) (sts : List Stmt) (u : EndsD → Env → Env → D → Prop) : Prop where
  run : ∀ (X : Cx), Good c X → ∀ (G B A Gu HB H : Hp) (σ : St) (e0 env : Env) (v : V) (d : D) (D : EndsD), DS1 c G B A Gu HB H σ e0 env i v d → u D e0 env d → TakesC c X (WXo c G B σ (backE e0 env) D.xq) → TUss X sts (EndsOf c G B σ (backE e0 env) D) σ H
def midD (K0 : EndsD) (e0 : Env) (i : Nat) (d : D) (P : Env → Prop) : EndsD := { nx := fun e => e[i]? = some (.bor d) ∧ e.length = e0.length ∧ P e, rt := fun rv e => ∃ s, rv = .val s ∧ scal s = true ∧ e.length = e0.length ∧ K0.rt (.val s) (backE e0 e), bk := fun e => e.length = e0.length ∧ K0.bk (backE e0 e), ct := fun e => e.length = e0.length ∧ K0.ct (backE e0 e), xq := noX }
/-! ### the call -/
def rvD : RV → Option D
  | .fr d => some d
  | .val d => some d
  | _ => none
def sDeep (i : Nat) (ms : List Bool) (F : FSp) (ta : AT) (u : EndsD → Env → D → Nat → Prop) : STt := fun D env => ta env (fun rs e1 => ∃ ds e2, argsE ms e1 rs = some (ds, e2) ∧ Nat.blt i e2.length = true ∧ argO ms ds = true ∧ F ds (fun rv => ∃ d, rvD rv = some d ∧ ∃ e0, e2.set i .emp = e0 ∧ u D e0 d 0) (fun _ => False)) D.xq
/-! normal forms -/
theorem lend_nil : lendE [] = [] := rfl
theorem lend_cons (s : Slot) (e : Env) : lendE (s :: e) = lendS s :: lendE e := rfl
theorem lendS_own (d : D) : lendS (.own d) = .bor d := rfl
theorem lendS_val (d : D) : lendS (.val d) = .bor d := rfl
theorem lendS_bor (d : D) : lendS (.bor d) = .bor d := rfl
theorem lendS_emp : lendS .emp = .emp := rfl
theorem back_nil (e : Env) : backE [] e = [] := rfl
theorem back_cons (a b : Slot) (e0 e : Env) : backE (a :: e0) (b :: e) = backS a b :: backE e0 e := rfl
theorem backS_bor (s : Slot) (d : D) : backS s (.bor d) = s := rfl
theorem backS_own (s : Slot) (d : D) : backS s (.own d) = .emp := rfl
theorem backS_emp (s : Slot) : backS s .emp = .emp := rfl
theorem backS_int (s : Slot) (i : Int) : backS s (.val (.int i)) = .val (.int i) := rfl
theorem backS_str (s : Slot) (i : Str) : backS s (.val (.str i)) = .val (.str i) := rfl
theorem backS_bl (s : Slot) (i : Bool) : backS s (.val (.bl i)) = .val (.bl i) := rfl
theorem backS_non (s : Slot) : backS s (.val .non) = .val .non := rfl
theorem backS_tup (s : Slot) (l : List D) : backS s (.val (.tup l)) = .emp := rfl
theorem backS_lst (s : Slot) (l : List D) : backS s (.val (.lst l)) = .emp := rfl
/-! as written -/
def pN : Env → D → Option D := fun _ d => some d
def pIx (n : Nat) (f : Env → D → Option D) : Env → D → Option D := fun env d => (f env d).bind (atD n)
def pKy (ks : D) (f : Env → D → Option D) : Env → D → Option D := fun env d => (f env d).bind (keyD? ks)
def dCons (i : Nat) (t : STt) (u : EndsD → Env → Env → D → Prop) : EndsD → Env → Env → D → Prop := fun D e0 env d => t (midD D e0 i d (fun e => u D e0 e d)) env
def dLook (i : Nat) (u : EndsD → Env → Env → D → Prop) : EndsD → Env → D → Nat → Prop := fun D env d k => k = 0 ∧ env[i]? = some .emp ∧ ∃ el, (lendE env).set i (.bor d) = el ∧ u D env el d
def dSetK (j : Nat) (t : ET) (u : EndsD → Env → D → Nat → Prop) : EndsD → Env → D → Nat → Prop := fun D env d k => t env (fun rv e1 => ∃ e2, asgN j rv e1 = some e2 ∧ u D e2 d k) noX
def dAsgK (gt : GT) (t : ET) (u : EndsD → Env → D → Nat → Prop) : EndsD → Env → D → Nat → Prop := fun D env d k => t env (fun rv e1 => ∃ d2 e2, fz e1 rv = some (d2, e2) ∧ gt d2 e2 (fun e3 => u D e3 d k)) noX
def dEnd (u : EndsD → Env → D → Nat → Prop) : EndsD → Env → Env → D → Prop := fun D e0 env d => ∃ e1, backE e0 env = e1 ∧ u D e1 d 0
def dApp (f : Env → D → Option D) (t : ET) (u : EndsD → Env → D → Nat → Prop) : EndsD → Env → D → Nat → Prop := fun D env d k => ∃ ds, f env d = some (.lst ds) ∧ k < 1000 ∧ ds.length ≤ 1000000 ∧ t env (fun rv e1 => e1 = env ∧ u D env d (k + 1)) noX
def dClr (f : Env → D → Option D) (t : STt) : EndsD → Env → D → Nat → Prop := fun D env d _ => ∃ ds, f env d = some (.lst ds) ∧ t D env
def dRest (t : STt) : EndsD → Env → D → Nat → Prop := fun D env _ _ => t D env
end VS

/-! VSX: the least of a list of data -/
namespace VS
open PySem PySem.Spec L2 PySem.W PyProof.Rows
def ltD (a b : D) : Bool := dataLt a.toPy b.toPy
def minL (d : D) (ds : List D) : D := ds.foldl (fun a y => if ltD y a = true then y else a) d
def bestI (d : D) (ds : List D) : Nat := argBest (fun i j => ltD ((d :: ds).getD i .non) ((d :: ds).getD j .non)) ds.length
theorem bestI_get (d : D) (ds : List D) : bestI d ds ≤ ds.length ∧ (d :: ds)[bestI d ds]? = some (minL d ds) := by
  obtain ⟨h1, h2⟩ := argBest_fold ltD D.non d ds ds.length (Nat.le_refl _)
  rw [List.take_length] at h2
  refine ⟨h1, ?_⟩
  have h3 : bestI d ds < (d :: ds).length := by rw [List.length_cons]; exact Nat.lt_succ_of_le h1
  have e := List.getElem?_eq_getElem h3
  have h2' : ((d :: ds)[bestI d ds]?).getD .non = minL d ds := by rw [← List.getD_eq_getElem?_getD]; exact h2
  rw [e] at h2' ⊢
  exact congrArg some h2'
def okMin (ds : List D) : Prop := D.okL 50 ds = true ∧ (∀ a ∈ ds, ∀ b ∈ ds, alike a.toPy b.toPy = true) ∧ ∀ a ∈ ds, a.toPy ≠ .none
def opMinD : List D → (RV → Prop) → Prop
  | [.lst (d :: ds)], Q => okMin (d :: ds) ∧ Q (.val (minL d ds))
  | _, _ => False
def rMinD (K : PySem.W.Frag) : List V → Hp → VK → Prop := fun vs H Q => ∃ (a : Addr) (xs : List V) (d : D) (ds : List D), vs = [V.ref a] ∧ SqL K H a xs ∧ DpAll K H xs (D.toPyL (d :: ds)) ∧ okMin (d :: ds) ∧ ∀ v, xs[bestI d ds]? = some v → Q v H
theorem toPyL_map : ∀ ds : List D, D.toPyL ds = ds.map D.toPy
  | [] => rfl
  | d :: ds => by rw [D.toPyL, toPyL_map ds, List.map_cons]
theorem vals_get : ∀ {xs : List V} {us : List Value} {i : Nat} {u : Value}, Vals xs us → us[i]? = some u → ∃ v, xs[i]? = some v ∧ RelV v u
  | _, _, _, _, .nil, e => by simp at e
  | _, _, 0, _, .cons h _, e => by
    simp at e
    subst e
    exact ⟨_, rfl, h⟩
  | _, _, i + 1, _, .cons _ t, e => by
    obtain ⟨v, h1, h2⟩ := vals_get (i := i) t (by simpa using e)
    exact ⟨v, by simpa using h1, h2⟩
theorem r_minD {X : Cx} {c : Cfg} (g : Good c X) (hc : c.calm = true := by rfl) : CallR X (.builtin "min") (rMinD c.K) := by
  rw [← g.K]
  intro pins s σ H vs us Q I r h
  obtain ⟨a, xs, d, ds, rfl, hs, hd, ⟨ho, hal, hnn⟩, q⟩ := h
  obtain ⟨its, rv, hl, hz⟩ := I.list hs
  rw [Vals.ref1 r]
  obtain ⟨as, hr⟩ := Dp.readsAll I _ _ _ hd rv
  have hr' : ReadsAll s.heap its.toArray.toList (d.toPy :: ds.map D.toPy) as := by
    rw [toPyL_map] at hr
    exact hr
  have ha : AlikeAll (d.toPy :: ds.map D.toPy) := by
    rw [← List.map_cons (f := D.toPy)]
    refine ⟨fun x hx y hy => ?_, fun x hx => ?_⟩
    · obtain ⟨x', hx', rfl⟩ := List.mem_map.mp hx
      obtain ⟨y', hy', rfl⟩ := List.mem_map.mp hy
      exact hal x' hx' y' hy'
    · obtain ⟨x', hx', rfl⟩ := List.mem_map.mp hx
      exact hnn x' hx'
  have hdep : PyData.depthAll (d.toPy :: ds.map D.toPy) ≤ 50 := by
    have := (D.okL_lay 50 (d :: ds) ho).2
    rw [toPyL_map] at this
    exact this
  have hun := g.roomH.un
  have hn : its.toArray.size = (ds.map D.toPy).length + 1 := readsAll_len hr'
  have hh : X.A.handled = none := I.ok.hd (g.calm hc)
  refine call_min_walkH (iter_listW (A := X.A.in1) hh hl.isList fun s₂ e W st hfp hw hk => ?_)
  refine ⟨_, _, _, _, _, _, _, s.heap, _, rfl, W, st, hfp, by omega, hw, hk, cmpIn_lt (A := X.A.in1) hr' ha (by show X.A.units + 1 + _ < _; omega), fun v s' hP m => ?_⟩
  obtain ⟨hq', tkq, rfl, kq⟩ := moved_old e rfl m
  have e1 : its.toArray.size - 1 = ds.length := by rw [hn, List.length_map]; omega
  have e2 : ∀ i, (d.toPy :: ds.map D.toPy).getD i PyData.none = ((d :: ds).getD i .non).toPy := fun i => by
    rw [← List.map_cons (f := D.toPy), List.getD_eq_getElem?_getD, List.getD_eq_getElem?_getD, List.getElem?_map]
    cases (d :: ds)[i]? with
    | none => rfl
    | some x => rfl
  have hP' : its[bestI d ds]? = some v := by
    have h2 : its.toArray[argBest (fun i j => dataLt ((d.toPy :: ds.map D.toPy).getD i PyData.none) ((d.toPy :: ds.map D.toPy).getD j PyData.none)) (its.toArray.size - 1)]? = some v := hP
    rw [e1] at h2
    simp only [e2] at h2
    simpa [bestI, ltD] using h2
  obtain ⟨y, hy, ry⟩ := vals_get rv hP'
  exact ⟨y, H, I.kept kq, ry, q y hy⟩
variable {c : Cfg}
theorem minD_s : OpSn c (rMinD c.K) opMinD := by
  intro G H xs ds P K s r o f
  unfold opMinD at o
  split at o
  · rename_i d ds
    cases r with
    | cons h r =>
    cases r
    obtain ⟨ok, p⟩ := o
    obtain ⟨a, vs, rfl, q, rr⟩ := h
    refine ⟨a, vs, d, ds, rfl, q, RepL.dp (rr.mono s) ok.1, ok, fun v hv => ?_⟩
    obtain ⟨dd, h1, h2⟩ := rr.get' hv
    rw [(bestI_get d ds).2] at h1
    cases h1
    exact f.val s p h2
  · exact o.elim
/-! < of data -/
def opLtA : D → D → (RV → Prop) → Prop
  | .int i, .int j, Q => Q (.val (.bl (decide (i < j))))
  | .str i, .str j, Q => Q (.val (.bl (decide (i.cps.toList < j.cps.toList))))
  | .tup xs, .tup ys, Q => D.okD 50 (.tup xs) = true ∧ D.okD 50 (.tup ys) = true ∧ alike (D.tup xs).toPy (D.tup ys).toPy = true ∧ Q (.val (.bl (ltD (.tup xs) (.tup ys))))
  | _, _, _ => False
def rLtD (K : PySem.W.Frag) : R2 := fun x y H Q => ∃ d e : D, Dp K H x d.toPy ∧ Dp K H y e.toPy ∧ alike d.toPy e.toPy = true ∧ d.toPy ≠ .none ∧ d.toPy.depth ≤ 50 ∧ Q (.bl (ltD d e)) H
theorem op_ltD {X : Cx} (hu : X.A.units + 64 < cLine) : OpR X (compareOp .Lt) (rLtD X.K) := by
  intro pins s σ H x y v u Q I rx ry h
  obtain ⟨d, e, hd, he, hal, hn, hdp, q⟩ := h
  obtain ⟨as, r1⟩ := Dp.reads I d.toPy x v hd rx
  obtain ⟨bs, r2⟩ := Dp.reads I e.toPy y u he ry
  have := Nat.min_le_left d.toPy.depth e.toPy.depth
  exact rcLt_alike _ _ X.A s v u _ _ r1 r2 hal hn (by omega) _ _ _ _ ⟨.bl _, H, I, rfl, q⟩
theorem ltA_s : OpS2 c (fun x y H Q => ((rI0 (fun i j => .bl (decide (i < j))) x y H Q ∨ (fun x y H Q => ∃ i j, x = .str i ∧ y = .str j ∧ Q (.bl (decide (i.cps.toList < j.cps.toList))) H) x y H Q) ∨ rLtD c.K x y H Q)) opLtA := by
  intro G H x y da db P K s rx ry o f
  unfold opLtA at o
  split at o
  · cases rx; cases ry
    exact .inl (.inl ⟨_, _, rfl, rfl, f.val s o (.bl _)⟩)
  · cases rx; cases ry
    exact .inl (.inr ⟨_, _, rfl, rfl, f.val s o (.bl _)⟩)
  · obtain ⟨h1, h2, h3, p⟩ := o
    exact .inr ⟨_, _, RD.dp s rx h1, RD.dp s ry h2, h3, by simp [D.toPy], (D.ok_lay 50 _ h1).2, f.val s p (.bl _)⟩
  · exact o.elim
theorem r_ltA {X : Cx} (g : Good c X) : OpR X (compareOp .Lt) (fun x y H Q => ((rI0 (fun i j => .bl (decide (i < j))) x y H Q ∨ (fun x y H Q => ∃ i j, x = .str i ∧ y = .str j ∧ Q (.bl (decide (i.cps.toList < j.cps.toList))) H) x y H Q) ∨ rLtD c.K x y H Q)) := by
  have := op_ltD (X := X) (by have := g.roomH.un; omega)
  rw [g.K] at this
  exact (op_lt.or op_lt_str).or this
theorem vt_ltA {pos : Pos} {a b : Expr} {ta tb : ET} (ha : VE c a ta) (hb : VE c b tb) : VT c (.Compare a [.Lt] [b] pos) (tV (eOp2 opLtA ta tb)) := vt_op2 (fun X g => r_ltA g) ltA_s (nomark _) ha hb
theorem lt_le {a b : D} (h : ltD b a = false) : leD a b = true := by
  show sortLe (listOrd itemOrd) false (fun b : D => keyToks b.toPy) a b = true
  unfold sortLe
  show (!(lexLt itemOrd (keyToks b.toPy) (keyToks a.toPy))) = true
  have : lexLt itemOrd (keyToks b.toPy) (keyToks a.toPy) = false := h
  rw [this]; rfl
theorem le_lt {a b : D} (h : leD a b = true) : ltD b a = false := by
  have h2 : sortLe (listOrd itemOrd) false (fun b : D => keyToks b.toPy) a b = true := h
  have h3 : (!(lexLt itemOrd (keyToks b.toPy) (keyToks a.toPy))) = true := h2
  show lexLt itemOrd (keyToks b.toPy) (keyToks a.toPy) = false
  simpa using h3
theorem minL_spec (d : D) : ∀ ds : List D, minL d ds ∈ d :: ds ∧ ∀ y ∈ d :: ds, leD (minL d ds) y = true := by
  intro ds
  unfold minL
  induction ds generalizing d with
  | nil => exact ⟨by simp, fun y hy => by rw [List.mem_singleton.mp hy]; exact lt_le (by show lexLt itemOrd _ _ = false; exact (listOrd itemOrd).irrefl _)⟩
  | cons x ds ih =>
    rw [List.foldl_cons]
    by_cases h : ltD x d = true
    · rw [if_pos h]
      obtain ⟨h1, h2⟩ := ih x
      refine ⟨List.mem_cons_of_mem _ h1, fun y hy => ?_⟩
      rcases List.mem_cons.mp hy with rfl | hy
      · refine leD_total.trans _ _ _ (h2 x (by simp)) ?_
        cases e : leD x y with
        | true => rfl
        | false =>
          have := leD_total.total x y
          rw [e] at this
          have := le_lt (this.resolve_left (by decide))
          rw [h] at this; cases this
      · exact h2 y hy
    · have h' : ltD x d = false := by simpa using h
      rw [if_neg h]
      obtain ⟨h1, h2⟩ := ih d
      refine ⟨?_, fun y hy => ?_⟩
      · rcases List.mem_cons.mp h1 with e | e
        · rw [e]; simp
        · simp [e]
      · rcases List.mem_cons.mp hy with rfl | hy
        · exact h2 y (by simp)
        · rcases List.mem_cons.mp hy with rfl | hy
          · exact leD_total.trans _ _ _ (h2 d (by simp)) (lt_le h')
          · exact h2 y (by simp [hy])
end VS

/-! VSY: the greatest of a dict's values -/
namespace VS
open PySem PySem.Spec L2 PyProof.Rows
def tMaxV (td : TE) : TE := fun σ H Q => td σ H fun x H1 => ∃ a kvs, ∃ ns : List Int, x = V.ref a ∧ Rd H1 a (.dK kvs) ∧ kvs.map (·.2) = ns.map V.int ∧ ns ≠ [] ∧ ∀ m, m ∈ ns → (∀ j ∈ ns, j ≤ m) → Q (.int m) H1
variable {c : Cfg} {pos : Pos}
/-- max(x.values()), the values whole numbers -/
def eMaxV (ta : ET) : ET := fun env Q Xq => ta env (fun ra e1 => ∃ kvs, ∃ ns : List Int, rd e1 ra = some (.dic false kvs) ∧ kvs.map (·.2) = ns.map D.int ∧ ns ≠ [] ∧ ∀ m, m ∈ ns → (∀ j ∈ ns, j ≤ m) → Q (.val (.int m)) e1) Xq
/-! list(x.values()) -/
def tListV (td : TE) : TE := fun σ H Q => td σ H fun x H1 => ∃ a kvs, x = V.ref a ∧ Rd H1 a (.dK kvs) ∧ ∀ l, H1 l = none → Q (.ref l) (upd H1 l (.lst (kvs.map (·.2))))
/-- list(x.values()) -/
def eListV (ta : ET) : ET := fun env Q Xq => ta env (fun ra e1 => ∃ kvs, rd e1 ra = some (.dic false kvs) ∧ Q (.fr (.lst (kvs.map (·.2)))) e1) Xq
/-! str.find -/
def opFind : D → List D → (RV → Prop) → Prop
  | .str a, [.str b], Q => Q (.val (.int (Txt.find a b)))
  | _, _, _ => False
def rFind : V → List V → Hp → VK → Prop := fun x xs H Q => ∃ a b, x = .str a ∧ xs = [.str b] ∧ Q (.int (Txt.find a b)) H
end VS

/-! WA: circles told -/
namespace VN
open PySem VS PySem.W
/-! carpets ordered -/
theorem alikeAll_strs : ∀ (xs ys : List Str), xs.length = ys.length → alikeAll (D.toPyL (xs.map D.str)) (D.toPyL (ys.map D.str)) = true
  | [], [], _ => by simp [D.toPyL, alikeAll]
  | x :: xs, y :: ys, h => by simp [D.toPyL, D.toPy, alikeAll, alike, alikeAll_strs xs ys (by simpa using h)]
  | [], _ :: _, h => by simp at h
  | _ :: _, [], h => by simp at h
theorem cpD_strs (n : Nat) (f : Cp) : cpD n f = .tup (((List.range n).map fun r => rowS n (f (r : Nat))).map D.str) := by unfold cpD; rw [List.map_map]; rfl
theorem alike_cp {n : Nat} {f g : Cp} : alike (cpD n f).toPy (cpD n g).toPy = true := by
  rw [cpD_strs, cpD_strs]
  simp only [D.toPy, alike]
  exact alikeAll_strs _ _ (by simp)
theorem ltD_irrefl (a : D) : ltD a a = false := (PyProof.Rows.listOrd PyProof.Rows.itemOrd).irrefl _
def prD (n : Nat) (f : Cp) (m : Mv) : D := .tup [cpD n f, dM m]
theorem alike_pr {n : Nat} {f g : Cp} {a b : Mv} : alike (prD n f a).toPy (prD n g b).toPy = true := by
  have h1 := alike_cp (n := n) (f := f) (g := g)
  have h2 := alike_M a b
  unfold prD
  simp only [D.toPy, D.toPyL, alike, alikeAll] at h1 h2 ⊢
  simp only [h1, h2, Bool.and_self, Bool.and_true, Bool.true_and]
theorem le_pr {n : Nat} {f g : Cp} {a b : Mv} (hf : okC f) (hg : okC g) (h : leD (prD n f a) (prD n g b) = true) : ltD (cpD n g) (cpD n f) = false := by
  have h2 : (!dataLt (.tuple [(cpD n g).toPy, (dM b).toPy]) (.tuple [(cpD n f).toPy, (dM a).toPy])) = true := h
  rw [dataLt_tuple, dataLt_cons alike_cp] at h2
  cases e : PyData.eqv (cpD n g).toPy (cpD n f).toPy with
  | true =>
    have := (D.eqv_iff 60 60 (cpD n g) (cpD n f) (ok_cp hg) (ok_cp hf)).mp e
    rw [this]
    exact ltD_irrefl _
  | false =>
    rw [e] at h2
    simpa [ltD] using h2
theorem ok_pr {n k : Nat} {f : Cp} {m : Mv} (h : okC f) : D.okD (k + 2) (prD n f m) = true := ok_tup (okL_cons (ok_cp h) (okL_cons ok_M okL_nil))
theorem pr_nn {n : Nat} {f : Cp} {m : Mv} : (prD n f m).toPy ≠ .none := by unfold prD; simp [D.toPy]
/-- a least one -/
def Least (n : Nat) (f : Cp) (m : Mv) : Prop := m.ok n ∧ ∀ m' : Mv, m'.ok n → ltD (cpD n (movF n m' f)) (cpD n (movF n m f)) = false
def lfF (n : Nat) (f : Cp) : D → D := fun d => prD n (movF n (unM d) f) (unM d)
theorem lf_min {n : Nat} (hn : 0 < n) {f : Cp} (hf : okC f) {Q : RV → Prop} (q : ∀ m, Least n f m → Q (.val (prD n (movF n m f) m))) : opMinD [.lst ((allM n).map fun m => prD n (movF n m f) m)] Q := by
  have hs : stayM ∈ allM n := mem_allM.mpr (stayM_ok (by omega))
  cases e : (allM n).map fun m => prD n (movF n m f) m with
  | nil =>
    rw [List.map_eq_nil_iff] at e
    rw [e] at hs; cases hs
  | cons d ds =>
    have hall : ∀ x ∈ d :: ds, ∃ m : Mv, m.ok n ∧ x = prD n (movF n m f) m := fun x hx => by
      rw [← e] at hx
      obtain ⟨m, hm, rfl⟩ := List.mem_map.mp hx
      exact ⟨m, mem_allM.mp hm, rfl⟩
    refine ⟨⟨okL_all fun x hx => ?_, fun x hx y hy => ?_, fun x hx => ?_⟩, ?_⟩
    · obtain ⟨m, _, rfl⟩ := hall x hx
      exact ok_pr (okC_mov hf)
    · obtain ⟨m, _, rfl⟩ := hall x hx
      obtain ⟨m', _, rfl⟩ := hall y hy
      exact alike_pr
    · obtain ⟨m, _, rfl⟩ := hall x hx
      exact pr_nn
    · obtain ⟨h1, h2⟩ := minL_spec d ds
      obtain ⟨m, hm, em⟩ := hall _ h1
      rw [em]
      refine q m ⟨hm, fun m' hm' => ?_⟩
      have hy : prD n (movF n m' f) m' ∈ d :: ds := by
        rw [← e]
        exact List.mem_map.mpr ⟨m', mem_allM.mpr hm', rfl⟩
      have h3 := h2 _ hy
      rw [em] at h3
      exact le_pr (okC_mov hf) (okC_mov hf) h3
theorem mov_cp {n : Nat} (hn : 0 < n) {a b : Mv} (ha : a.ok n) (hb : b.ok n) (f : Cp) : cpD n (movF n (thn n a b) f) = cpD n (movF n b (movF n a f)) := cp_ext.mpr (mov_thn hn ha hb f)
end VN

/-! WB: rounds -/
namespace VN
open PySem VS PySem.W
def itP (n : Nat) (m : Mv) : Nat → Pl → Pl
  | 0, p => p
  | k + 1, p => ledP n (itP n m k p) m
def perP (n : Nat) (m : Mv) (p : Pl) : Nat := ((List.range (4 * n)).find? fun k => decide (itP n m (k + 1) p = p)).getD 0 + 1
def orbL (n : Nat) (m : Mv) (p : Pl) : List Pl := (List.range (perP n m p)).map fun k => itP n m k p
noncomputable def rndL (n : Nat) (m : Mv) : List (List Pl) := (rootsL n [m]).map (orbL n m)
/-! the order of rounds -/
def dmF (n : Int) : D → D
  | .int k => dPl (k / n) (k % n)
  | d => d
end VN

/-! VSZ: the keys of our own dict, walked: the dict is shared from then on -/
namespace VS
open PySem PySem.Spec L2 PyProof.Rows
variable {c : Cfg} {G B H : Hp} {σ : L2.St} {env : Env}
theorem RepK.at {K : PySem.W.Frag} {w : World} {vs : List (Key × V)} {ds : List (D × D)} (h : RepK K w G vs ds) {i : Nat} {d : D} (e : (ds.map (·.1))[i]? = some d) : ∃ k v, vs[i]? = some (k, v) ∧ d = keyD k := by
  induction vs generalizing ds i with
  | nil => cases h; cases e
  | cons p vs ih =>
    cases h with
    | @cons k v _ d1 ds1 h r =>
      cases i with
      | zero =>
        have e : some (keyD k) = some d := e
        exact ⟨k, v, rfl, (Option.some.inj e).symm⟩
      | succ i => exact ih r e
def iDk (i : Nat) : IT := fun env Q _ => ∃ kvs, env[i]? = some (.own (.dic false kvs)) ∧ Q (kvs.map (·.1)) none (env.set i (.val (.dic false kvs)))
end VS

/-! WC: the colours of a circle counted; mended carpets -/
namespace VN
open PySem VS PySem.W
section
variable {α : Type} [DecidableEq α] {k : α → D}
theorem kvA_cong {v v' : α → D} {F : List α} (h : ∀ a ∈ F, v' a = v a) : kvA k v F = kvA k v' F := by
  unfold kvA
  exact List.map_congr_left fun a ha => by rw [h a ha]
theorem kvA_putU (hk : ∀ a b, k a = k b → a = b) {v v' : α → D} {m : α} {F : List α} (h : m ∈ F) (hv : ∀ a, a ≠ m → v' a = v a) : dput (kvA k v F) (k m) (v' m) = kvA k v' F := by
  unfold dput
  rw [if_pos]
  · unfold kvA
    rw [List.map_map]
    refine List.map_congr_left fun a ha => ?_
    show (if k a = k m then (k a, v' m) else (k a, v a)) = (k a, v' a)
    split
    · rename_i e; rw [hk _ _ e]
    · rename_i e; rw [hv a fun z => e (by rw [z])]
  · rw [List.any_eq_true]
    exact ⟨(k m, v m), List.mem_map.mpr ⟨m, h, rfl⟩, decide_eq_true rfl⟩
end
def colsL (f : Cp) (C : List Pl) : List Nat := C.map fun p => f p.1 p.2
def cntD (cs : List Nat) : Nat → D := fun x => .int (cs.count x)
structure HadI (cs F : List Nat) : Prop where
  nd : F.Nodup
  mem : ∀ x, x ∈ F ↔ x ∈ cs
theorem HadI.zero : HadI [] [] := ⟨by simp, by simp⟩
theorem sgnI : ∀ a b : Nat, sgn a = sgn b → a = b := fun a b h => sgn_inj h
theorem HadI.put {cs F : List Nat} (h : HadI cs F) (x : Nat) : ∃ F', HadI (cs ++ [x]) F' ∧ F'.length ≤ F.length + 1 ∧ dput (kvA sgn (cntD cs) F) (sgn x) (.int ((cs.count x : Int) + 1)) = kvA sgn (cntD (cs ++ [x])) F' := by
  have hx : D.int ((cs.count x : Int) + 1) = cntD (cs ++ [x]) x := by
    unfold cntD
    rw [List.count_append, List.count_singleton_self]
    rfl
  have hv : ∀ a, a ≠ x → cntD (cs ++ [x]) a = cntD cs a := fun a ha => by
    unfold cntD
    rw [List.count_append, List.count_eq_zero_of_not_mem (a := a) (l := [x]) (by simpa using ha)]
    rfl
  rw [hx]
  by_cases hin : x ∈ F
  · refine ⟨F, ⟨h.nd, fun y => ?_⟩, by omega, kvA_putU sgnI hin hv⟩
    rw [List.mem_append, List.mem_singleton, ← h.mem]
    exact ⟨.inl, fun z => z.elim id fun e => e ▸ hin⟩
  · refine ⟨F ++ [x], ⟨?_, fun y => ?_⟩, by simp, ?_⟩
    · rw [List.nodup_append]
      exact ⟨h.nd, by simp, fun a ha b hb e => hin (by rw [List.mem_singleton] at hb; rw [← hb, ← e]; exact ha)⟩
    · rw [List.mem_append, List.mem_append, h.mem]
    · rw [kvA_cong (v := cntD cs) (v' := cntD (cs ++ [x])) fun a ha => hv a fun e => hin (e ▸ ha)]
      exact kvA_put sgnI hin
structure Mode (cs : List Nat) (x : Nat) (m : Int) : Prop where
  inn : x ∈ cs
  cnt : (cs.count x : Int) = m
  top : ∀ y ∈ cs, (cs.count y : Int) ≤ m
  low : ∀ y ∈ cs, (cs.count y : Int) = m → leD (sgn x) (sgn y) = true
def okN (cs : List Nat) : Prop := ∀ x ∈ cs, x < 1114112
noncomputable def modeX (cs : List Nat) : Nat := by
  classical
  exact if h : ∃ x m, Mode cs x m then Classical.choose h else 97
def modeM (cs : List Nat) (x : Nat) : Int := cs.count x
/-! the colours most had, in a dict's order -/
noncomputable def cntQ (cs : List Nat) (m : Int) : D → Bool := fun d => by
  classical
  exact decide (∃ x, d = sgn x ∧ (cs.count x : Int) = m)
def bestL (cs F : List Nat) (m : Int) : List Nat := F.filter fun x => decide ((cs.count x : Int) = m)
/-! the paper, and what it makes -/
noncomputable def modC (n : Nat) (L : List Mv) (f : Cp) (p : Pl) : Nat := modeX (colsL f (circP n L p))
noncomputable def SM (n : Nat) (L : List Mv) (f : Cp) : List (Pl × Nat) := (rootsL n L).map fun p => (p, modC n L f p)
noncomputable def rowD (n : Nat) (L : List Mv) (f : Cp) (q : Pl × Nat) : D := .tup [dLP (circP n L q.1), sgn q.2, .int (modeM (colsL f (circP n L q.1)) q.2)]
noncomputable def papD (n : Nat) (L : List Mv) (f : Cp) : D := .lst ((SM n L f).map (rowD n L f))
noncomputable def menF (n : Nat) (L : List Mv) (f : Cp) : Cp := fun r c => modC n L f (rootP n L (r, c))
/-! where two carpets differ -/
def diffL (n : Nat) (g f : Cp) : List Pl := (allP n).filter fun p => decide (g p.1 p.2 ≠ f p.1 p.2)
def diffP (n : Nat) (g f : Cp) (i : Nat) : List Pl := (preP n i 0).filter fun p => decide (g p.1 p.2 ≠ f p.1 p.2)
def rowQ (g f : Cp) (r : Int) : D → Bool
  | .int c => decide (g r c ≠ f r c)
  | _ => false
def rowP (r : Int) : D → D
  | .int c => dPl r c
  | d => d
def dmQ (n : Int) (g f : Cp) : D → Bool
  | .int k => decide (g (k / n) (k % n) ≠ f (k / n) (k % n))
  | _ => false
noncomputable def menD (n : Nat) (L : List Mv) (f : Cp) : D := .tup [cpD n (menF n L f), .lst ((diffL n (menF n L f) f).map dP), papD n L f]
/-! circles, sorted -/
/-! circles told place by place -/
def RK (n : Nat) (L : List Mv) (k : Nat) (F : List Pl) : Prop := RInv n L (k / n) (k % n) F
noncomputable def preK (n : Nat) (L : List Mv) (k : Nat) : List Pl := preR n L (k / n) (k % n)
theorem RK.zero {n : Nat} {L : List Mv} : RK n L 0 [] := by
  unfold RK
  rw [Nat.zero_div, Nat.zero_mod]
  exact RInv.zero
theorem kdm {n k : Nat} (hn : 0 < n) : ((k + 1) / n = k / n ∧ (k + 1) % n = k % n + 1) ∨ ((k + 1) / n = k / n + 1 ∧ (k + 1) % n = 0 ∧ k % n + 1 = n) := by
  have h1 := Nat.div_add_mod k n
  have h2 := Nat.mod_lt k hn
  by_cases h : k % n + 1 = n
  · right
    have e : k + 1 = n * (k / n + 1) := by rw [Nat.mul_add]; omega
    exact ⟨by rw [e, Nat.mul_div_cancel_left _ hn], by rw [e, Nat.mul_mod_right], h⟩
  · left
    have e : k + 1 = (k % n + 1) + n * (k / n) := by omega
    refine ⟨?_, ?_⟩
    · rw [e, Nat.add_mul_div_left _ _ hn, Nat.div_eq_of_lt (by omega)]; omega
    · rw [e, Nat.add_mul_mod_self_left, Nat.mod_eq_of_lt (by omega)]
theorem RK.succ {n k : Nat} (hn : 0 < n) {L : List Mv} {F : List Pl} (h : RInv n L (k / n) (k % n + 1) F) : RK n L (k + 1) F := by
  unfold RK
  rcases kdm (k := k) hn with ⟨e1, e2⟩ | ⟨e1, e2, e3⟩
  · rw [e1, e2]; exact h
  · rw [e1, e2]
    rw [e3] at h
    exact h.row
theorem CInv.two {n : Nat} (hn : 0 < n) {L : List Mv} (ok : ∀ x ∈ L, x.ok n) {i j : Nat} {F : List Pl} (h : RInv n L i j F) (hp : (((i : Int), (j : Int)) : Pl) ∈ allP n) (hF : (((i : Int), (j : Int)) : Pl) ∉ F) : CInv (ledP n) L (F ++ [(((i : Int), (j : Int)) : Pl)]) (allP n) (F ++ [(((i : Int), (j : Int)) : Pl)]) [(((i : Int), (j : Int)) : Pl)] (2 * (allP n).length - 2 * F.length - 1) :=
  CInv.init h.nd hF (h.closed hn ok) fun m hm => by
    rcases List.mem_append.mp hm with z | z
    · exact ((h.mem m).mp z).1
    · rw [List.mem_singleton.mp z]; exact hp
end VN
namespace VN
open PySem VS PySem.W
end VN
namespace VS
open PySem
end VS
namespace VN
open PySem VS PySem.W
end VN

/-! WD: the fewest knots changed -/
namespace VN
open PySem VS PySem.W
theorem sum_cast {α : Type} (f : α → Nat) : ∀ R : List α, (R.map fun r => ((f r : Nat) : Int)).sum = (((R.map f).sum : Nat) : Int)
  | [] => rfl
  | r :: R => by
    have := sum_cast f R
    simp only [List.map_cons, List.sum_cons] at this ⊢
    omega
/-- h is alike on each circle -/
def Flat (n : Nat) (L : List Mv) (h : Cp) : Prop := ∀ r ∈ rootsL n L, ∀ q ∈ circP n L r, h q.1 q.2 = h r.1 r.2
/-! a carpet coloured circle by circle -/
noncomputable def hF (n : Nat) (L : List Mv) (G : Pl → Nat) : Cp := fun r c => G (rootP n L (r, c))
def setG (G : Pl → Nat) (p : Pl) (x : Nat) : Pl → Nat := fun q => if q = p then x else G q
end VN
namespace VN
open PySem VS PySem.W
def thrF : D → D
  | .tup [_, _, d] => d
  | d => d
end VN

/-! VTA: for x in reversed(list) -/
namespace VS
open PySem PySem.Spec L2 PyProof.Rows
variable {c : Cfg} {G B : Hp}
def itV (rv : RV) (e1 : Env) (Q : List D → Option Nat → Env → Prop) : Prop := match rv with
  | .val (.lst ds) => Q ds.reverse none e1
  | .slot i => match e1[i]? with
    | some (.own (.lst ds)) => Q ds.reverse (some i) e1
    | some (.bor (.lst ds)) => Q ds.reverse none e1
    | _ => False
  | _ => False
def iRev1 (ta : AT) : IT := fun env Q Xq => ta env (fun rs e1 => ∃ rv, rs = [rv] ∧ itV rv e1 Q) Xq
end VS

/-! VTB: a whole row of movements -/
namespace VN
open PySem VS PySem.W
theorem mov_cg {n : Nat} (hn : 0 < n) (m : Mv) {g g' : Cp} (e : cpD n g = cpD n g') : cpD n (movF n m g) = cpD n (movF n m g') := cp_ext.mpr fun r c _ _ _ _ => mov_congr hn m (cp_ext.mp e) r c
theorem mov_stay_cp {n : Nat} (hn : 0 < n) (f : Cp) : cpD n (movF n stayM f) = cpD n f := cp_ext.mpr (mov_stay hn f)
def nowF (n : Nat) (Ms : List Mv) (f : Cp) : Cp := Ms.foldl (fun g m => movF n m g) f
end VN
namespace VN
open PySem VS PySem.W
end VN

/-! VTC: range(a, b) of any size: its long iterator -/
namespace PySem
open Sem (wp)
abbrev IsLr (h : Heap) (p : Addr) (v m st : Int) : Prop := h.get? p = some { cls := .type "longrange_iterator", dict := none, data := .fields #[rawInt v, rawInt m, rawInt st], slots := #[] }
end PySem
namespace PySem
open Sem (wp)
section
variable {prog : Program} {w : World} {A : Around} {E : Value → Shared → Prop} {s : Shared}
end
end PySem
namespace VS
open PySem PySem.Spec L2 PyProof.Rows
def iRngL (ta : TA) : TI := fun σ H R => ta σ H fun vs H1 => ∃ i j : Int, vs = [.int i, .int j] ∧ R (Itr i (j - i).toNat) H1
variable {c : Cfg}
def iRgL (ta : AT) : IT := fun env Q Xq => ta env (fun rs e1 => ∃ i j, rs = [.val (.int i), .val (.int j)] ∧ Q (rgD i (j - i).toNat) none e1) Xq
end VS

/-! VTD: carpets laid without end -/
namespace VN
open PySem VS PySem.W
end VN
namespace VN
open PySem VS PySem.W
end VN

/-! WE: texts: their parts, cuts and figures -/
namespace VN
open PySem VS
/-! figures -/
def figC (c : Nat) : Bool := decide (48 ≤ c) && decide (c ≤ 57)
def figS (w : Str) : Bool := w.cps.toList.all figC
/-- a number of at most four figures, without a nought ahead -/
def numO (w : Str) : Option Int :=
  if w.length < 1 ∨ 4 < w.length ∨ figS w = false ∨ (1 < w.length ∧ w.cps.toList.head? = some 48) then none else some ((NumText.digitsVal w.cps.toList : Nat) : Int)
def oI : Option Int → D
  | some i => .int i
  | none => .non
end VN
namespace VN
open PySem VS
def digB : D → D
  | .str s => .bl (s.cps.toList.all figC)
  | _ => .bl false
/-! a movement's text -/
def shD : D → D
  | .int i => .str (toString i)
  | d => d
def shT (m : Mv) : Str := Txt.join "." [m.w.str, toString m.d, toString m.r]
def Mv.sm (m : Mv) : Prop := m.ok 8
def shTs : List Mv → Str
  | [] => "-"
  | m :: ms => Txt.join "," ((m :: ms).map shT)
end VN
namespace VN
open PySem VS
def shF : D → D
  | .tup [.str w, .int d, .int r] => .str (Txt.join "." [w, toString d, toString r])
  | d => d
end VN
namespace VN
open PySem VS
end VN
namespace VN
open PySem VS
end VN
namespace VN
open PySem VS
end VN
namespace VN
open PySem VS
theorem eq_same {a : D} {Q : RV → Prop} (h : D.okD 60 a.un = true) (hs : ∀ b, a ≠ .bl b) (hs2 : ∀ b, a ≠ .str b) (q : Q (.val (.bl true))) : opEq a a Q := by
  have e : decide (a.un = a.un) = true := decide_eq_true rfl
  have z : D.okD 60 a.un = true ∧ D.okD 60 a.un = true ∧ Q (.val (.bl (decide (a.un = a.un)))) := ⟨h, h, by rw [e]; exact q⟩
  cases a <;> first
    | exact absurd rfl (hs _)
    | exact absurd rfl (hs2 _)
    | exact z
end VN
namespace VN
open PySem VS
end VN
namespace VN
open PySem VS
end VN
namespace VN
open PySem VS
end VN

/-! VTE: the items of our own dict, walked: the dict is shared from then on -/
namespace VS
open PySem PySem.Spec L2 PyProof.Rows
def tLk (td : TE) : TE := fun σ H Q => td σ H fun x H1 => ∃ d kvs, x = V.ref d ∧ H1 d = some (.dK kvs) ∧ ∀ od, Q x (upd H1 d (.frz od (.dK kvs)))
variable {c : Cfg} {G B : Hp}
def iDi (i : Nat) : IT := fun env Q _ => ∃ kvs, env[i]? = some (.own (.dic false kvs)) ∧ Q (kvs.map fun p => D.tup [p.1, p.2]) none (env.set i (.val (.dic false kvs)))
end VS

/-! VTF: str(text) -/
namespace VS
open PySem PySem.Spec L2
variable {c : Cfg} {pos : Pos}
/-! str(x), x a whole number or a text -/
def opStrA : List D → (RV → Prop) → Prop
  | [.int i], Q => i.natAbs.log2 < 1920 ∧ Q (.val (.str (toString i)))
  | [.str x], Q => Q (.val (.str x))
  | _, _ => False
def rStrA : List V → Hp → VK → Prop := fun xs H Q => (∃ i, xs = [.int i] ∧ i.natAbs.log2 < 1920 ∧ Q (.str (toString i)) H) ∨ ∃ a, xs = [.str a] ∧ Q (.str a) H
end VS

/-! VTG: tuple(reversed(tuple)), str(text) -/
namespace RT
open PySem PySem.Spec PyProof.Rows L2
theorem Walks.rt {prog : Program} {w : World} {A : Around} (hh : A.handled = none) (I t : Addr) (hne : t ≠ I) (items : Array Value) (hsz : items.size ≤ sizeLine) :
    Walks prog w A I [I, t] [I] items.size (fun i v => items[items.size - 1 - i]? = some v) (fun i h => i ≤ items.size ∧ IsRt h I t ((items.size : Int) - 1 - (i : Int)) ∧ IsTup h t items) where
  sub := fun b hb => by simp at hb; simp [hb]
  frame := fun _ h h' x hk => ⟨x.1, x.2.1.at fun o e => hk I (by simp) o e, by
    obtain ⟨o, e, r⟩ := x.2.2
    exact ⟨o, hk t (by simp) o e, r⟩⟩
  item := fun i s Q E hi x hQ => by
    have e : (items.size : Int) - 1 - (i : Int) = ((items.size - 1 - i : Nat) : Int) := by omega
    have hit := x.2.1
    rw [e] at hit
    have hx : items[items.size - 1 - i]? = some (items[items.size - 1 - i]'(by omega)) := Array.getElem?_eq_getElem (by omega)
    refine next_rt_item hit x.2.2 hx hsz fun h' hit' hs' => ?_
    have e2 : ((items.size - 1 - i : Nat) : Int) - 1 = (items.size : Int) - 1 - ((i + 1 : Nat) : Int) := by omega
    rw [e2] at hit'
    exact hQ _ h' (s.toks + 1) hx ⟨hi, hit', by
      obtain ⟨o, e, r⟩ := x.2.2
      exact ⟨o, (hs'.2 t hne).trans e, r⟩⟩ fun b o hb eo => (hs'.2 b (fun h => hb (by simp [h]))).trans eo
  done := fun s Q E x hQ => by
    have e : (items.size : Int) - 1 - (items.size : Int) = -1 := by omega
    have hit := x.2.1
    rw [e] at hit
    exact next_rt_end hh hit fun h' he' => hQ h' s.toks fun b o hb eo => he' b o (fun h => hb (by simp [h])) eo
  self := fun _ _ _ _ x hQ => iter_rt x.2.1 hQ
section
variable {prog : Program} {w : World} {A : Around} {E : Value → Shared → Prop} {s : Shared}
end
/-- tuple(reversed(x)), x a tuple: a new tuple -/
def tTupRt (K : PySem.W.Frag) (te : TE) : TE := fun σ H Q => te σ H fun v H1 => ∃ (a : Addr) (xs : List V), v = .ref a ∧ SqT K H1 a xs ∧ ∀ q, H1 q = none → Q (.ref q) (upd H1 q (.tup xs.reverse))
end RT
namespace VS
open PySem PySem.Spec L2
variable {c : Cfg} {pos : Pos}
/-- tuple(reversed(x)), x a tuple -/
def eTupRev (ta : ET) : ET := fun env Q Xq => ta env (fun r e1 => ∃ ds, rd e1 r = some (.tup ds) ∧ Q (.val (.tup ds.reverse)) e1) Xq
end VS

/-! VTH: text[::-1] -/
namespace L2
open PySem PySem.Spec PyProof.Rows
def revS (z : Str) : Str := ⟨z.cps.toList.reverse.toArray⟩
def tRevS (te : TE) : TE := fun σ H Q => te σ H fun x H1 => ∃ z : Str, x = .str z ∧ z.length ≤ sizeLine ∧ Q (.str (revS z)) H1
end L2
namespace VS
open PySem PySem.Spec L2
variable {c : Cfg} {pos : Pos} {a : Expr} {ta : ET}
def eRevS (t : ET) : ET := fun env Q Xq => t env (fun rv e1 => ∃ z : Str, rd e1 rv = some (.str z) ∧ z.length ≤ sizeLine ∧ Q (.val (.str (revS z))) e1) Xq
end VS

/-! WF: cloths turned -/
namespace VN
open PySem VS L2
def colF (k : Nat) : D → D
  | .str s => sgn (s.cps.toList.getD k 0)
  | d => d
def revF : D → D
  | .str s => .str (revS s)
  | d => d
def quart : Way → Bool | .turn => true | .back => true | .cross => true | .other => true | _ => false
def tnH (v : Way) (h w : Nat) : Nat := if quart v = true then w else h
def tnW (v : Way) (h w : Nat) : Nat := if quart v = true then h else w
def frR (v : Way) (h w r c : Int) : Int := match v with
  | .turn => h - 1 - c | .half => h - 1 - r | .back => c | .side => r | .flip => h - 1 - r | .cross => c | .other => h - 1 - c | .stay => r
def frC (v : Way) (h w r c : Int) : Int := match v with
  | .turn => r | .half => w - 1 - c | .back => w - 1 - r | .side => w - 1 - c | .flip => c | .cross => r | .other => w - 1 - r | .stay => c
def tnF (v : Way) (h w : Nat) (f : Cp) : Cp := fun r c => f (frR v h w r c) (frC v h w r c)
def tnD (v : Way) (h w : Nat) (f : Cp) : D := rcD (tnH v h w) (tnW v h w) (tnF v h w f)
end VN
namespace VN
open PySem VS L2
end VN
namespace VN
open PySem VS L2
end VN
namespace VN
open PySem VS L2
end VN

/-! VTI: raise and try by plain values. -/
namespace VS
open PySem PySem.Spec L2

/-! ### what is never come to -/
def sNo : STt := fun _ _ => False
/-! ### raise X('text'), X an own class without __init__ -/
abbrev veBase : List Value := [.type "ValueError", .type "Exception", .type "BaseException", .type "object"]
structure XAt (c : Cfg) (x : Str) (C : Addr) : Prop where
  ns : PySem.W.nsIn c.K mainGlobals x = some (some (.ref C))
  mg : c.mg x = some (.ref C)
  keep : PySem.W.keepIn c.K (.ref C) = true
  exc : PySem.W.excIn c.K C veBase "ValueError.__new__" = true
  sub : PySem.W.subIn c.K (.ref C) (.type "BaseException") = some true
  ty : PySem.W.typeIn c.K (.ref C) = some (.type "type")
def sRaise (x : Str) : STt := fun D env => D.xq ⟨x, []⟩ env
/-! ### a caught exception is tracked -/
/-- the ends behind a suite whose name's slot goes -/
def goneD (i : Nat) (D : Ends) : Ends := { nx := fun σ H => D.nx (σ.set i none) H, rt := D.rt, bk := fun σ H => D.bk (σ.set i none) H, ct := fun σ H => D.ct (σ.set i none) H }
/-- the wish of 'except x as n' of what the body lets out -/
def wTrk (K : PySem.W.Frag) (c : Value) (i : Nat) (ts : TS) (Wout : WX) (D : Ends) : WX := fun cls d σ H =>
  ∃ b, PySem.W.exmOne K cls c = some b ∧ (b = true → ∃ C, cls = .ref C ∧ ∀ a, H a = none → ts (goneD i D) (σ.set i (some (.ref a))) (upd H a (exO C d a))) ∧ (b = false → Wout cls d σ H)
section
variable {X : Cx} {x n : Str} {c : Value} {i : Nat} {body suite : List Stmt} {b₀ : Stmt} {np pos pos' : Pos} {tb : WX → TS} {ts : TS} {Wout : WX}
end

/-! ### try by plain values -/
/-- within an except suite -/
def suC (c : Cfg) : Cfg := { c with calm := false }
def NamesC (c : Cfg) (x : Str) (v : Value) : Prop := GlC c x ∧ (x == ("__debug__" : Str)) = false ∧ (c.mg x = some v ∨ (c.mg x = none ∧ bootBuiltins x = some v ∧ x ≠ "__name__"))
theorem NamesC.names {c : Cfg} {X : Cx} {x : Str} {v : Value} (h : NamesC c x v) (g : Good c X) : Names X x v := ⟨GlC.gl g h.1, h.2.1, by rw [g.mg]; exact h.2.2⟩
/-- what a class in an except clause says to the classes of the errors that may come -/
def ExmC (c : Cfg) (v : Value) (isC : Str → Option Bool) : Prop := ∀ y b C, isC y = some b → PySem.W.nsIn c.K mainGlobals y = some (some (.ref C)) → PySem.W.exmOne c.K (.ref C) v = some b
def noS : RV → Bool
  | .slot _ => false
  | _ => true
def goneE (i : Nat) (D : EndsD) : EndsD := { nx := fun e => D.nx (e.set i .emp), rt := fun r e => noS r = true ∧ D.rt r (e.set i .emp), bk := fun e => D.bk (e.set i .emp), ct := fun e => D.ct (e.set i .emp), xq := noX }
def sTryAs (isC : Str → Option Bool) (i : Nat) (tb ts : STt) : STt := fun D env =>
  tb { D with xq := fun xd e => ∃ b, isC xd.cls = some b ∧ if b = true then ts (goneE i D) (e.set i (.val (.exc xd.cls xd.fs))) else D.xq xd e } env
def sTryOnly (isC : Str → Option Bool) (tb ts : STt) : STt := fun D env =>
  tb { D with xq := fun xd e => ∃ b, isC xd.cls = some b ∧ if b = true then ts { D with xq := noX } e else D.xq xd e } env
section
variable {c c' : Cfg} {G G' B H : Hp} {σ σ' : St} {env env' : Env} {i : Nat} {v : V} {rv : RV}
end
theorem Good.tr {c : Cfg} {X : Cx} (g : Good c X) (pn : List (Addr × Obj)) (xe : Value → Shared → Prop) (po : PassesOwn (model X.prog X.w) X.A X.env xe) : Good c (X.tr pn xe) :=
  ⟨g.prog, g.w, g.K, g.mg, g.base, g.N, g.nd, g.scope, g.fn, g.roomH, g.calmH, po, g.stk⟩
theorem Good.suite {c : Cfg} {X : Cx} (g : Good c X) (a : Addr) (pn : List (Addr × Obj)) : Good (suC c) (X.suite a pn) :=
  ⟨g.prog, g.w, g.K, g.mg, g.base, g.N, g.nd, g.scope, g.fn, ⟨g.roomH.dp, g.roomH.un⟩, fun z => Bool.noConfusion (show false = true from z), PassesOwn.never, g.stk⟩
end VS

/-! VTJ: isinstance(e, C) and e.f of a caught exception; the facts of a law's classes. -/
namespace VS
open PySem PySem.Spec L2

/-- what is said of a class whose errors are asked by isinstance, or for their fields -/
structure ExcF (K : PySem.W.Frag) (C : Addr) : Prop where
  ga : PySem.W.findIn K (.ref C) "__getattribute__" = some (some (.builtin "BaseException.__getattribute__"))
  gg : PySem.W.findIn K (.ref C) "__getattr__" = some none
  sub : PySem.W.subIn K (.ref C) (.type "BaseException") = some true
  ca : PySem.W.findIn K (.ref C) "__class__" = some (some (.builtin "object.__class__"))
  cn : PySem.W.specialIn K (.builtin "object.__class__") "__get__" = some (some (.builtin "getset_descriptor.__get__"))
  ct : PySem.W.takesIn K (.builtin "object.__class__") = some true
  mr : PySem.W.mroIn K C (.type "object") = some true
  hd : PySem.W.hasDictIn K C = true
theorem ExcF.cl {K : PySem.W.Frag} {C : Addr} (F : ExcF K C) : (PySem.W.clsIn K C).isSome = true := by
  obtain ⟨cd, hc, _⟩ := PySem.W.any_some F.hd
  rw [hc]; rfl
/-- a class that except clauses and isinstance name: what it says to the law's own errors -/
structure ECls (c : Cfg) (x : Str) (isC : Str → Option Bool) : Prop where
  ex : ∃ v vv, ClsV vv v ∧ (c.mg x = some v ∨ (c.mg x = none ∧ bootBuiltins x = some v ∧ x ≠ "__name__")) ∧ PySem.W.kitOne c.K (.type "NoneType") v = some false ∧
    ∀ y b, isC y = some b → ∃ C, PySem.W.nsIn c.K mainGlobals y = some (some (.ref C)) ∧ PySem.W.exmOne c.K (.ref C) v = some b ∧ PySem.W.kitOne c.K (.ref C) v = some b ∧ ExcF c.K C
theorem ECls.cfg {c c' : Cfg} {x : Str} {isC : Str → Option Bool} (h : ECls c x isC) (h1 : c'.K = c.K) (h2 : c'.mg = c.mg) : ECls c' x isC := by
  obtain ⟨v, vv, k, m, n, z⟩ := h.ex
  exact ⟨v, vv, k, by rw [h2]; exact m, by rw [h1]; exact n, by rw [h1]; exact z⟩
structure XCls (c : Cfg) (x : Str) : Prop where
  ex : ∃ C, XAt c x C
section
variable {c : Cfg} {k : Nat} {N : List Str} {sc : Scope} {x : Str} {i : Nat} {isC : Str → Option Bool}
theorem ECls.inn (h : ECls c x isC) : ECls (c.inn k N sc) x isC := h.cfg rfl rfl
theorem XCls.inn (h : XCls c x) : XCls (c.inn k N sc) x := by
  obtain ⟨C, h⟩ := h.ex
  exact ⟨C, h.ns, h.mg, h.keep, h.exc, h.sub, h.ty⟩
end
/-! ### isinstance(e, C) -/
def rIsX (K : PySem.W.Frag) : List V → Hp → VK → Prop := fun xs H Q => ∃ x vv cv b, xs = [x, vv] ∧ ClsV vv cv ∧ ((x = .non ∧ PySem.W.kitOne K (.type "NoneType") cv = some b) ∨
    ∃ a C d fs, x = .ref a ∧ H a = some (exO C d a) ∧ XF H d fs ∧ ExcF K C ∧ PySem.W.kitOne K (.ref C) cv = some b) ∧ Q (.bl b) H
def opIsX (isC : Str → Option Bool) : D → (RV → Prop) → Prop
  | .exc y _, Q => ∃ b, isC y = some b ∧ Q (.val (.bl b))
  | .non, Q => Q (.val (.bl false))
  | _, _ => False
theorem ClsV.rel {vv : V} {v : Value} (k : ClsV vv v) : RelV vv v := by
  cases k with
  | ty n => rfl
  | own C => rfl
end VS

/-! WG: the nearest movement -/
namespace VS
theorem ite_mid {b : Bool} {a c : STt} {D : EndsD} {e : Env} (R : Env → Prop) (hR : ∀ e', R e' → D.nx e') (ha : b = true → ∀ K : Env → Prop, (∀ e', R e' → K e') → a { D with nx := K } e)
    (hb : b = false → ∀ K : Env → Prop, (∀ e', R e' → K e') → c { D with nx := K } e) : (fun (k : Bool) (e : Env) => if k = true then a D e else c D e) b e := by
  cases b with
  | true => exact ha rfl D.nx hR
  | false => exact hb rfl D.nx hR
end VS
namespace VN
open VS PySem PySem.W
def nrD (n : Nat) (f g : Cp) (m : Mv) : D := .tup [.int ((diffL n (movF n m f) g).length : Int), dM m, .lst ((diffL n (movF n m f) g).map dP)]
/-- a movement that leaves the fewest places unlike -/
def NearM (n : Nat) (f g : Cp) (m : Mv) : Prop := m.ok n ∧ ∀ m' : Mv, m'.ok n → (diffL n (movF n m f) g).length ≤ (diffL n (movF n m' f) g).length
end VN

/-! VTK: raise X(e), X an own class whose own __init__ calls its base's and keeps one field; e.f of a caught exception. -/
namespace VS
open PySem PySem.Spec L2

/-- what is said of a base class whose __init__ is ValueError's -/
structure BAt (c : Cfg) (x : Str) (B : Addr) : Prop where
  mg : c.mg x = some (.ref B)
  ga : PySem.W.specialIn c.K (.ref B) "__getattribute__" = some (some (.builtin "type.__getattribute__"))
  ty : PySem.W.typeIn c.K (.ref B) = some (.type "type")
  rd : PySem.W.readsIn c.K B (.type "type") = true
  fi : PySem.W.findCls c.K (.ref B) (.type "type") "__init__" = some (.val (.builtin "ValueError.__init__"))
/-- B.__init__(self, ..) -/
theorem pe_binit {X : Cx} {c : Cfg} {x : Str} {B : Addr} {e : Expr} {es : List Expr} {ta : TA} {p1 p2 pos : Pos} {pl : Sem Bool} (g : Good c X) (h : BAt c x B) (hg : Gl X x) (hd : (x == ("__debug__" : Str)) = false) (ha : PA X (e :: es) ta)
    (hc : eval (.Call (.Attribute (.Name x p1) "__init__" p2) (e :: es) [] pos) X.env = (do
      let ov ← eval (.Name x p1) X.env
      standAt p2.atName
      let (f, first) ← holding [ov] (getMethod ov "__init__" pl)
      callWith pos f first (backTo pos (starEach (e :: es) X.env)) (backToKw pos (keywordEach [] X.env))) := by rfl)
    (he : starEach (e :: es) X.env = (false, eval e X.env) :: starEach es X.env := by rfl) (hpl : (backTo pos (starEach es X.env)).any (·.1) = false := by rfl) :
    PE X (.Call (.Attribute (.Name x p1) "__init__" p2) (e :: es) [] pos) (tVeI X.K ta) := by
  refine ⟨fun pins s σ H Q I q => ?_⟩
  refine PySem.W.methodCall_KW (ld_glob I hg (by rw [g.mg]; exact h.mg) ?_ hd) hc
  obtain ⟨m, fr⟩ := I.fr
  refine PySem.W.method_of_cls fr I.ok.mod.kin (by rw [g.K]; exact h.ga) ?_
  refine PySem.W.cls_val fr I.ok.mod.kin (by rw [g.K]; exact h.ty) (by rw [g.K]; exact h.rd) (by rw [g.K]; exact h.fi) (by decide +kernel) ?_
  show wpAny _ _ (callWith pos (Value.builtin "ValueError.__init__") [] (backTo pos (starEach (e :: es) X.env)) []) _ _ _
  refine PyProof.Rows.callWith_method1 (thn (ha.run pos pins _ σ H _ (I.tok _) q) fun us s1 ⟨vs, H1, I1, r1, a, C, ws, ev, hl, T, ea, q1⟩ => ?_) he hpl
  subst ev
  cases r1 with
  | @cons _ u0 _ ur ra rw' =>
    obtain rfl : u0 = Value.ref a := ra
    have hlen : ur.length ≤ sizeLine := by
      rw [← Paired.length rw', sizeLine_eq]
      omega
    exact oinit_ok T I1 ea hlen fun s' J => ⟨.non, H1, J, rfl, q1⟩
/-- what such an __init__ does -/
def spI (C : Addr) (f : Str) : Sp := fun vs H Q _ => ∃ a v, vs = [.ref a, v] ∧ H a = some (exo a C none) ∧ ∀ dx, H dx = none → dx ≠ a → Q .non (upd (upd H dx (exd dx [(f, v)])) a (exo a C (some dx)))
theorem init_ok {c : Cfg} {y f qual : Str} {m : Str} {C fI : Addr} {fd : FuncData} {st : Stmt} {k : Nat} (Fu : Fun c.K "__init__" qual st fI fd) (S : FnScope ["self", y] ["self", y] (defScope st)) (T : OexC c.K C) (hno : PySem.W.findIn c.K (.ref C) f = some none)
    (hb : ∀ X, Good (c.inn k ["self", y] (defScope st)) X → PSs X (defBody st) (tSeq (tDrop (tVeI X.K (tCons (tVar 0) (tCons (tC (.str m)) tNil)))) (tOst X.K f (tVar 0) (tVar 1)))) :
    FnOk c.P c.w c.K c.mg c.base (cxC c) (k + 1) fI fd ["self", y] (spI C f) := by
  refine fun_okG (CX := cxC c) Fu S (fun vs H Q E ⟨a, v, e, _⟩ => by rw [e]; rfl) (fun cdv A outer s H vs Q E hr ⟨a, v, ev, ea, q⟩ => ?_)
  have g : Good (c.inn k ["self", y] (defScope st)) (cxOf (cxC c) c.P c.w c.K c.mg c.base ["self", y] qual (defScope st) fI cdv A outer s H E) := ⟨rfl, rfl, rfl, rfl, rfl, rfl, S.nd, rfl, rfl, L2H.roomH_of hr, (fun _ => ⟨rfl, hr.hd⟩), passes_of rfl, fun _ => ⟨rfl, rfl, rfl⟩⟩
  refine ⟨_, hb _ g, ?_⟩
  subst ev
  refine ⟨_, rfl, a, C, [.str m], rfl, (by show 1 ≤ 1000; omega), T, ea, ?_⟩
  refine ⟨_, rfl, _, rfl, a, C, rfl, T, hno, .inl ⟨ea, fun dx h1 h2 => q dx h1 h2⟩⟩

/-- an own class with own __init__ of one field, to be raised -/
structure XICls (c : Cfg) (x f : Str) : Prop where
  ex : ∃ C fI y fd, PySem.W.nsIn c.K mainGlobals x = some (some (.ref C)) ∧ c.mg x = some (.ref C) ∧ OexC c.K C ∧ PySem.W.findIn c.K (.ref C) "__init__" = some (some (.ref fI)) ∧ PySem.W.typeIn c.K (.ref fI) = some (.type "function") ∧
    FnOk c.P c.w c.K c.mg c.base (cxC c) 1 fI fd ["self", y] (spI C f) ∧ Binds c.K fd ["self", y] []
theorem XICls.inn {c : Cfg} {x f : Str} {k : Nat} {N : List Str} {sc : Scope} (h : XICls c x f) : XICls (c.inn k N sc) x f := ⟨h.ex⟩
def sRaiseI (x f : Str) (t : ET) : STt := fun D env => t env (fun rv e1 => ∃ d, rv = .val d ∧ D.xq ⟨x, [(.str f, d)]⟩ e1) D.xq
theorem vs_raiseI {c : Cfg} {x f : Str} {e : Expr} {t : ET} {p p3 pos : Pos} (h : XICls c x f) (hg : GlC c x) (hd : (x == ("__debug__" : Str)) = false) (he : VE c e t) (hk : 2 ≤ c.k) (hnc : c.nc = false) (hn : noStar e = true := by rfl) (hc : c.calm = true := by rfl) :
    VS1 c (.Raise (some (.Call (.Name x p) [e] [] p3)) none pos) (sRaiseI x f t) := by
  obtain ⟨C, fI, y, fd, hns, hmg, T, iC, tI, F1, hb⟩ := h.ex
  constructor
  intro X g G B H σ env D E q tk
  rw [cxC_f hnc] at F1
  refine TUs.of (ps_raise (g.calm hc) (tk.l2 hnc) (pmk_oex (CX := L2.CX X.prog X.w) (ds := []) (dvs := []) (k := 1) (fd := fd) (ps := ["self", y]) (sp := spI C f) (by rw [g.K]; exact T) (by rw [g.K]; exact iC) (by rw [g.K]; exact tI) (by rw [g.prog, g.w, g.K, g.mg, g.base]; exact F1)
    ((g.room hc).mono hk) (by rw [g.K]; exact hb) .nil (passes_call (tk.l2 hnc) fun _ _ _ _ z => z.elim) (GlC.gl g hg) (by rw [g.mg]; exact hmg) (pa_cons (pe_tu (X := X) (e := e)) pa_nil (star_cons hn)) hd (star_cons hn) rfl)) ?_
  refine (he.run X g G B H σ env _ D.xq E q tk).imp fun v H1 ⟨rv, e1, G1, ⟨d, erv, qx⟩, E1, x1, k1, r1⟩ => ?_
  subst erv
  refine ⟨(by show 1 ≤ 1000; omega), fun a na => ⟨a, v, rfl, upd_same, fun dx n1 n2 => ⟨rfl, dx, [(f, v)], upd_same, ?_, ?_, ?_⟩⟩⟩
  · rw [upd_ne n2, upd_same]
  · rw [upd_ne n2] at n1
    exact n1
  · have nd : H1 dx = none := by
      rw [upd_ne n2] at n1
      exact n1
    have e3 : upd (del (upd (upd (upd H1 a (exo a C none)) dx (exd dx [(f, v)])) a (exo a C (some dx))) a) dx (.xd [(f, v)]) = upd H1 dx (.xd [(f, v)]) := by
      funext b
      by_cases h1 : b = dx
      · rw [h1, upd_same, upd_same]
      · rw [upd_ne h1, upd_ne h1]
        by_cases h2 : b = a
        · rw [h2, del_same, na]
        · rw [del_ne h2, upd_ne h2, upd_ne h1, upd_ne h2]
    rw [e3]
    have ng : G1 dx = none := by
      cases z : G1 dx with
      | none => rfl
      | some o =>
        rw [E1.gh _ _ z] at nd
        cases nd
    have xa : Ext B G1 (upd G1 dx (.xd [(f, v)])) := ⟨same_new ng, fun b h => by
      by_cases hba : b = dx
      · rw [hba]
        exact .inr (Nu.of (E1.bh.free nd))
      · rw [upd_ne hba] at h
        exact .inl h⟩
    have R : Res G1 H1 (upd G1 dx (.xd [(f, v)])) (upd H1 dx (.xd [(f, v)])) := ⟨same_new nd, same_new ng, fun b u h => by
      by_cases hba : b = dx
      · rw [hba, upd_same] at h ⊢
        exact h
      · rw [upd_ne hba] at h ⊢
        exact E1.gh _ _ h, fun b h => by
      by_cases hba : b = dx
      · rw [hba]
        exact .inr (Nu.of nd)
      · rw [upd_ne hba] at h
        exact .inl h⟩
    exact ⟨⟨x, [(.str f, d)]⟩, e1, _, qx, E1.go R, x1.trans xa, k1.bors σ, C, rfl, hns, [(f, v)], .inr ⟨dx, rfl, upd_same⟩, .cons (Rep.mono (same_new ng) r1) .nil⟩

/-! ### e.f -/
/-- the field f of the errors of the classes that isF tells -/
structure EFld (c : Cfg) (f : Str) (isF : Str → Bool) : Prop where
  ex : ∀ y, isF y = true → ∃ C, PySem.W.nsIn c.K mainGlobals y = some (some (.ref C)) ∧ PySem.W.findIn c.K (.ref C) f = some none ∧ ExcF c.K C
theorem EFld.inn {c : Cfg} {f : Str} {isF : Str → Bool} {k : Nat} {N : List Str} {sc : Scope} (h : EFld c f isF) : EFld (c.inn k N sc) f isF := ⟨h.ex⟩
def fldD (f : Str) : List (D × D) → Option D
  | [] => none
  | (k, d) :: r => if k = .str f then some d else fldD f r
def opFld (f : Str) (isF : Str → Bool) : D → (RV → Prop) → Prop
  | .exc y fs, Q => isF y = true ∧ ∃ d, fldD f fs = some d ∧ Q (.val d)
  | _, _ => False
def rFld (K : PySem.W.Frag) (f : Str) : V → Hp → VK → Prop := fun x H Q => ∃ a C d fs v, x = .ref a ∧ H a = some (exO C d a) ∧ XF H d fs ∧ ExcF K C ∧ PySem.W.findIn K (.ref C) f = some none ∧ fs.lookup f = some v ∧ Q v H
end VS
namespace VS
open PySem PySem.Spec L2
def clsBody : Stmt → Nat → Stmt
  | .ClassDef _ _ _ body .., i => body.getD i (.Pass ⟨0, 0, 0, 0⟩)
  | _, _ => .Pass ⟨0, 0, 0, 0⟩
theorem pe_vis {X : Cx} {c : Cfg} {i : Nat} {x : Str} {pos : Pos} (g : Good c X) (h : VisC c i x) : PE X (.Name x pos) (tVar i) := pe_var (by rw [g.N]; exact h.1) (by rw [g.scope]; exact h.2.1) h.2.2.1 h.2.2.2
theorem BAt.inn {c : Cfg} {x : Str} {B : Addr} {k : Nat} {N : List Str} {sc : Scope} (h : BAt c x B) : BAt (c.inn k N sc) x B := ⟨h.mg, h.ga, h.ty, h.rd, h.fi⟩
end VS

/-! VTL: len(set(ints)); texts, tuples and lists times ints. -/
namespace VS
open PySem PySem.Spec L2

/-! ### len(set(x)), x a list of ints -/
def nSet (ns : List Int) : Nat := (PyProof.Rows.firstMet (fun i => ns.getD i 0) ns.length).length
def rLenSet (K : PySem.W.Frag) : V → Hp → VK → Prop := fun x H Q => ∃ (l : Addr) (ns : List Int), x = .ref l ∧ SqL K H l (ns.map V.int) ∧ ns.length ≤ 4000 ∧ Q (.int (nSet ns : Nat)) H
def opLenSet : D → (RV → Prop) → Prop
  | .lst xs, Q => ∃ ns : List Int, xs = ns.map D.int ∧ ns.length ≤ 4000 ∧ Q (.val (.int (nSet ns : Nat)))
  | _, _ => False
/-! ### texts, tuples, lists times ints -/
def timesS (x : Str) (n : Int) : Str := ⟨(List.replicate n.toNat x.cps.toList).flatten.toArray⟩
def rMulS : R2 := fun x y H Q => ∃ (a : Str) (n : Int), x = .str a ∧ y = .int n ∧ 1 ≤ n ∧ n ≤ 1000 ∧ a.length ≤ 1000 ∧ Q (.str (timesS a n)) H
def opMulA : D → D → (RV → Prop) → Prop
  | .int i, .int j, Q => mulOk i j ∧ Q (.val (.int (i * j)))
  | .str a, .int n, Q => 1 ≤ n ∧ n ≤ 1000 ∧ a.length ≤ 1000 ∧ Q (.val (.str (timesS a n)))
  | .tup xs, .int n, Q => xs ≠ [] ∧ 2 ≤ n ∧ n ≤ 1000 ∧ xs.length ≤ 1000 ∧ Q (.val (.tup (List.replicate n.toNat xs).flatten))
  | _, _, _ => False
theorem RepL.rep {K : PySem.W.Frag} {w : World} {G : Hp} {vs : List V} {ds : List D} (h : RepL K w G vs ds) : ∀ n : Nat, RepL K w G (List.replicate n vs).flatten (List.replicate n ds).flatten
  | 0 => .nil
  | n + 1 => by
    rw [List.replicate_succ, List.replicate_succ, List.flatten_cons, List.flatten_cons]
    exact h.append (RepL.rep h n)
/-- [e, ..] * k -/
def eRepL (ta tb : ET) : ET := fun env Q Xq => ta env (fun ra e1 => tb e1 (fun rb e2 => ∃ ds k, ra.hold = .val (.lst ds) ∧ rd e2 rb = some (.int k) ∧ 0 ≤ k ∧ k ≤ 1000000 ∧ ds.length * k.toNat ≤ 1000000 ∧ Q (.fr (.lst (List.replicate k.toNat ds).flatten)) e2) Xq) Xq
end VS

/-! WH: cloths as texts; what a cloth is -/
namespace VN
open VS PySem PySem.W
abbrev abcS : Str := "abcdefghijklmnopqrstuvwxyz"
abbrev slS : Str := "/"
def rowOk (x : Str) : Bool := decide (1 ≤ x.length) && (decide (x.length ≤ 24) && x.cps.toList.all fun ch => decide (ch ∈ abcS.cps.toList))
def isRowD : D → Bool
  | .str s => rowOk s
  | _ => false
def lenD : D → Int
  | .str s => (s.length : Int)
  | _ => 0
def isClothD : D → Bool
  | .tup xs => decide (1 ≤ xs.length) && (decide (xs.length ≤ 24) && (xs.all isRowD && decide (nSet (xs.map lenD) = 1)))
  | _ => false
/-- what may be asked -/
def askD : D → Prop
  | .ty _ => False
  | .kdic _ => False
  | .exc _ _ => False
  | .str s => s.length ≤ 100000
  | _ => True
def askC : D → Prop
  | .ty _ => False
  | .kdic _ => False
  | .exc _ _ => False
  | .ktup _ => False
  | .tup xs => ∀ x ∈ xs, askD x
  | .str s => s.length ≤ 100000
  | _ => True
def clothOf : D → Option (List Str)
  | .str s => if isClothD (.tup ((Txt.split s slS).map D.str)) = true then some (Txt.split s slS) else none
  | _ => none
/-! texts joined are split again -/
/-! what a cloth is, by its rows -/
def goodR (R : List Str) : Prop := 1 ≤ R.length ∧ R.length ≤ 24 ∧ ∀ r ∈ R, rowOk r = true ∧ r.length = (R.headD ⟨#[]⟩).length
end VN
namespace VN
open VS PySem PySem.W
end VN
namespace VN
open VS PySem PySem.W
end VN
namespace VN
open VS PySem PySem.W
def rowsOf (h w : Nat) (f : Cp) : List Str := (List.range h).map fun r => rowS w (f (r : Nat))
end VN

/-! WI: cloths compared; what a cloth is, of any rows -/
namespace VN
open VS PySem PySem.W
theorem ne_same {a : D} {Q : RV → Prop} (h : D.okD 60 a.un = true) (hs : ∀ b, a ≠ .bl b) (hs2 : ∀ b, a ≠ .str b) (q : Q (.val (.bl false))) : opNe a a Q := by
  have e : (!decide (a.un = a.un)) = false := by rw [decide_eq_true rfl]; rfl
  have z : D.okD 60 a.un = true ∧ D.okD 60 a.un = true ∧ Q (.val (.bl (!decide (a.un = a.un)))) := ⟨h, h, by rw [e]; exact q⟩
  cases a <;> first
    | exact absurd rfl (hs _)
    | exact absurd rfl (hs2 _)
    | exact z
end VN

/-! WJ: papers of chosen colours (mended towards) -/
namespace VN
open PySem VS PySem.W
noncomputable def SMG (n : Nat) (L : List Mv) (G : Pl → Nat) : List (Pl × Nat) := (rootsL n L).map fun p => (p, G p)
noncomputable def papG (n : Nat) (L : List Mv) (f : Cp) (G : Pl → Nat) : D := .lst ((SMG n L G).map (rowD n L f))
noncomputable def menG (n : Nat) (L : List Mv) (f : Cp) (G : Pl → Nat) : D := .tup [cpD n (hF n L G), .lst ((diffL n (hF n L G) f).map dP), papG n L f G]
def okGP (G : Pl → Nat) : Prop := ∀ p, G p < 1114112
def IsMode (cs : List Nat) (y : Nat) : Prop := y ∈ cs ∧ (cs.count y : Int) = modeM cs (modeX cs)
open Classical in
noncomputable def towG (n : Nat) (L : List Mv) (f g : Cp) : Pl → Nat := fun p => if IsMode (colsL f (circP n L p)) (g p.1 p.2) then g p.1 p.2 else modeX (colsL f (circP n L p))
def movsB (n : Nat) (g : Cp) (m : Mv) : Prop := cpD n (movF n m g) = cpD n g
instance {n : Nat} {g : Cp} {m : Mv} : Decidable (movsB n g m) := by unfold movsB; exact inferInstance
def badQ (n : Nat) (g : Cp) (L : List Mv) : D → Bool
  | .int k => match L[k.toNat]? with
    | some m => decide (¬ movsB n g m)
    | none => false
  | _ => false
def updP (g : Cp) (p : Pl) (y : Nat) : Cp := fun r c => if ((r, c) : Pl) = p then y else g r c
end VN

/-! WK: carpets counted: rounds run, carpets as lists of figures -/
namespace VN
open PySem VS PySem.W
/-! rounds, run -/
def orbC (n : Nat) (m : Mv) : Nat → List Pl → Pl → List Pl
  | 0, _, _ => []
  | k + 1, S, p => if p ∈ S then [] else p :: orbC n m k (S ++ [p]) (ledP n p m)
def rndS (n : Nat) (m : Mv) (x : List (List Pl) × List Pl) (p : Pl) : List (List Pl) × List Pl :=
  if p ∈ x.2 then x else (x.1 ++ [orbC n m (n * n + 1) x.2 p], x.2 ++ orbC n m (n * n + 1) x.2 p)
def rndX (n : Nat) (m : Mv) (ps : List Pl) : List (List Pl) × List Pl := ps.foldl (rndS n m) ([], [])
def rndC (n : Nat) (m : Mv) : List (List Pl) := (rndX n m (allP n)).1
theorem rndX_snoc (n : Nat) (m : Mv) (ps : List Pl) (p : Pl) : rndX n m (ps ++ [p]) = rndS n m (rndX n m ps) p := by
  unfold rndX
  rw [List.foldl_append]
  rfl
theorem orbC_step {n : Nat} {m : Mv} {k : Nat} {S : List Pl} {p : Pl} (h : p ∉ S) : orbC n m (k + 1) S p = p :: orbC n m k (S ++ [p]) (ledP n p m) := by
  rw [orbC, if_neg h]
theorem orbC_end {n : Nat} {m : Mv} {k : Nat} {S : List Pl} {p : Pl} (h : p ∈ S) : orbC n m k S p = [] := by
  cases k with
  | zero => rfl
  | succ k => rw [orbC, if_pos h]
structure Sn (n : Nat) (S : List Pl) : Prop where
  nd : S.Nodup
  inn : ∀ p ∈ S, p ∈ allP n
theorem Sn.nil {n : Nat} : Sn n [] := ⟨by simp, by simp⟩
theorem Sn.len {n : Nat} {S : List Pl} (h : Sn n S) : S.length ≤ n * n := by
  rw [← allP_len n]
  exact h.nd.length_le_of_subset fun p hp => h.inn p hp
theorem Sn.add {n : Nat} {S : List Pl} (h : Sn n S) {p : Pl} (hp : p ∈ allP n) (hn : p ∉ S) : Sn n (S ++ [p]) :=
  ⟨List.nodup_append.mpr ⟨h.nd, by simp, fun a ha b hb e => hn (by rw [List.mem_singleton] at hb; rw [← hb, ← e]; exact ha)⟩, fun q hq => by
    rcases List.mem_append.mp hq with z | z
    · exact h.inn q z
    · rw [List.mem_singleton.mp z]; exact hp⟩
/-! carpets as lists of figures -/
def dig (n : Nat) (w : List Nat) : Cp := fun r c => 97 + w.getD (n * r + c).toNat 0
def dW (n : Nat) (w : List Nat) : D := cpD n (dig n w)
def lexL (c : Nat) : Nat → List (List Nat)
  | 0 => [[]]
  | m + 1 => (lexL c m).flatMap fun w => (List.range c).map fun j => w ++ [j]
def strW (w : List Nat) : Str := ⟨(w.map fun d => 97 + d).toArray⟩
def srcW (n : Nat) (m : Mv) (q : Nat) : Nat := (n * lR n (inv n m).w (inv n m).d (q / n : Nat) (q % n : Nat) + lC n (inv n m).w (inv n m).r (q / n : Nat) (q % n : Nat)).toNat
def movW (n : Nat) (m : Mv) (w : List Nat) : List Nat := (List.range (n * n)).map fun q => w.getD (srcW n m q) 0
theorem movW_len (n : Nat) (m : Mv) (w : List Nat) : (movW n m w).length = n * n := by unfold movW; simp
theorem dW_mov {n : Nat} (m : Mv) (w : List Nat) : cpD n (movF n m (dig n w)) = dW n (movW n m w) := cp_ext.mpr fun r c h0 h1 h2 h3 => by
  unfold movF dig movW
  obtain ⟨i, rfl⟩ := Int.eq_ofNat_of_zero_le h0
  obtain ⟨j, rfl⟩ := Int.eq_ofNat_of_zero_le h2
  have hi : i < n := by omega
  have hj : j < n := by omega
  have e : ((n : Int) * (i : Int) + (j : Int)).toNat = n * i + j := by
    rw [← Int.natCast_mul, ← Int.natCast_add, Int.toNat_natCast]
  rw [e]
  have hlt : n * i + j < n * n := by
    have : n * i + n ≤ n * n := by rw [← Nat.mul_succ]; exact Nat.mul_le_mul (Nat.le_refl n) hi
    omega
  have e1 : (n * i + j) / n = i := by
    rw [Nat.mul_add_div (by omega), Nat.div_eq_of_lt hj, Nat.add_zero]
  have e2 : (n * i + j) % n = j := by
    rw [Nat.mul_add_mod, Nat.mod_eq_of_lt hj]
  congr 1
  rw [List.getD_eq_getElem?_getD (l := List.map _ _), List.getElem?_map, List.getElem?_range hlt]
  simp only [Option.map_some, Option.getD_some]
  unfold srcW
  rw [e1, e2]
theorem dW_inj {n : Nat} {a b : List Nat} (ha : a.length = n * n) (hb : b.length = n * n) (h : dW n a = dW n b) : a = b := by
  refine List.ext_getElem (by omega) fun q h1 h2 => ?_
  have hn : 0 < n := by
    rcases Nat.eq_zero_or_pos n with z | z
    · subst z; omega
    · exact z
  have hq : q < n * n := by omega
  have hd : q / n < n := Nat.div_lt_of_lt_mul hq
  have hm : q % n < n := Nat.mod_lt q hn
  have e := (cp_ext.mp h) ((q / n : Nat) : Int) ((q % n : Nat) : Int) (Int.natCast_nonneg _) (Int.ofNat_lt.mpr hd) (Int.natCast_nonneg _) (Int.ofNat_lt.mpr hm)
  unfold dig at e
  have e1 : ((n : Int) * ((q / n : Nat) : Int) + ((q % n : Nat) : Int)).toNat = q := by
    rw [← Int.natCast_mul, ← Int.natCast_add, Int.toNat_natCast]
    exact Nat.div_add_mod q n
  rw [e1] at e
  rw [List.getD_eq_getElem?_getD, List.getElem?_eq_getElem h1, List.getD_eq_getElem?_getD, List.getElem?_eq_getElem h2] at e
  simp only [Option.getD_some] at e
  omega
theorem lexL_len {c : Nat} : ∀ {m : Nat} {w : List Nat}, w ∈ lexL c m → w.length = m ∧ ∀ d ∈ w, d < c
  | 0, w, h => by
    rw [lexL, List.mem_singleton] at h
    subst h
    exact ⟨rfl, by simp⟩
  | m + 1, w, h => by
    rw [lexL, List.mem_flatMap] at h
    obtain ⟨v, hv, h⟩ := h
    obtain ⟨j, hj, rfl⟩ := List.mem_map.mp h
    obtain ⟨h1, h2⟩ := lexL_len hv
    refine ⟨by rw [List.length_append, h1]; rfl, fun d hd => ?_⟩
    rcases List.mem_append.mp hd with z | z
    · exact h2 d z
    · rw [List.mem_singleton.mp z]; exact List.mem_range.mp hj
/-! the met ones -/
def insW (F : List (List Nat)) (x : List Nat) : List (List Nat) := if x ∈ F then F else F ++ [x]
def orbW (n : Nat) (F : List (List Nat)) (w : List Nat) (ms : List Mv) : List (List Nat) := ms.foldl (fun F m => insW F (movW n m w)) F
def manS (n : Nat) (x : Nat × List (List Nat)) (w : List Nat) : Nat × List (List Nat) := if w ∈ x.2 then x else (x.1 + 1, orbW n x.2 w (allW n))
def manX (n : Nat) (ws : List (List Nat)) : Nat × List (List Nat) := ws.foldl (manS n) (0, [])
def manB (n c : Nat) : Nat := (manX n (lexL c (n * n))).1
theorem orbW_snoc (n : Nat) (F : List (List Nat)) (w : List Nat) (ms : List Mv) (m : Mv) : orbW n F w (ms ++ [m]) = insW (orbW n F w ms) (movW n m w) := by
  unfold orbW
  rw [List.foldl_append]
  rfl
def Ln (n : Nat) (F : List (List Nat)) : Prop := ∀ w ∈ F, w.length = n * n
theorem Ln.ins {n : Nat} {F : List (List Nat)} (h : Ln n F) {x : List Nat} (hx : x.length = n * n) : Ln n (insW F x) := by
  unfold insW
  split
  · exact h
  · intro w hw
    rcases List.mem_append.mp hw with z | z
    · exact h w z
    · rw [List.mem_singleton.mp z]; exact hx
/-- carpets as keys -/
def kW (n : Nat) (w : List Nat) : D := if w.length = n * n then dW n w else .lst (w.map fun d => .int (d : Nat))
theorem kW_eq {n : Nat} {w : List Nat} (h : w.length = n * n) : kW n w = dW n w := if_pos h
theorem kW_inj (n : Nat) (a b : List Nat) (h : kW n a = kW n b) : a = b := by
  unfold kW at h
  by_cases ha : a.length = n * n
  · by_cases hb : b.length = n * n
    · rw [if_pos ha, if_pos hb] at h
      exact dW_inj ha hb h
    · rw [if_pos ha, if_neg hb] at h
      cases h
  · by_cases hb : b.length = n * n
    · rw [if_neg ha, if_pos hb] at h
      cases h
    · rw [if_neg ha, if_neg hb] at h
      injection h with h
      exact map_inj (fun x y e => by injection e with e; omega) h
theorem dW_key (n : Nat) (w : List Nat) : isKT (dW n w) = true := by
  show (List.map _ _).all isK = true
  rw [List.all_eq_true]
  intro x hx
  obtain ⟨r, _, rfl⟩ := List.mem_map.mp hx
  rfl
theorem in_kW {neg : Bool} {n : Nat} {v : List Nat → D} {w : List Nat} {F : List (List Nat)} {Q : RV → Prop} (hw : w.length = n * n) (q : Q (.val (.bl (neg ^^ decide (w ∈ F))))) : opIn neg (dW n w) (.dic true (kvA (kW n) v F)) Q := ⟨rfl, dW_key n w, by
  have e : (dget (kvA (kW n) v F) (dW n w)).isSome = decide (w ∈ F) := by
    rw [← kW_eq hw, Bool.eq_iff_iff, decide_eq_true_iff]
    exact kvA_isSome (kW_inj n) v w F
  rw [e]; exact q⟩
theorem put_kW {n : Nat} {F : List (List Nat)} {w : List Nat} (hw : w.length = n * n) : dput (kvA (kW n) (fun _ => .bl true) F) (dW n w) (.bl true) = kvA (kW n) (fun _ => .bl true) (insW F w) := by
  rw [← kW_eq hw]
  unfold insW
  split
  · rename_i h
    exact kvA_put_in (kW_inj n) (v := fun _ => D.bl true) h
  · rename_i h
    exact kvA_put (kW_inj n) (v := fun _ => D.bl true) h
theorem insW_len (F : List (List Nat)) (x : List Nat) : (insW F x).length ≤ F.length + 1 := by
  unfold insW
  split
  · omega
  · simp
/-! the numbers -/
def cntT (n c : Nat) : Nat := ((allM n).map fun m => c ^ (rndC n m).length).sum
def cntB (n c : Nat) : Nat := cntT n c / (8 * (n * n))
def pairs : List (Nat × Nat) := ((List.range 26).map fun k => (1, k + 1)) ++ [(2, 1), (2, 2), (2, 3), (3, 1)]
def unW : D → List Nat
  | .str s => s.cps.toList.map fun d => d - 97
  | _ => []
open Classical in
noncomputable def onM (g : Mv → D) (d : D) : D := if h : ∃ m, d = dM m then g (Classical.choose h) else .non
theorem onM_at (g : Mv → D) (m : Mv) : onM g (dM m) = g m := by
  unfold onM
  have h : ∃ x, dM m = dM x := ⟨m, rfl⟩
  rw [dif_pos h]
  congr 1
  exact (dM_inj (Classical.choose_spec h)).symm
theorem log2_lt {x : Nat} (h : x ≤ 1000) : ((x : Int)).natAbs.log2 < 9000 := by
  rw [Int.natAbs_natCast]
  have := Nat.log2_le_self x
  omega
theorem pow_mul {b i : Nat} (hi : i ≤ 1000) (hb : b ≤ 100) : mulOk ((b ^ i : Nat) : Int) (b : Int) := by
  refine .inr ?_
  show ((b ^ i : Nat) : Int).natAbs.log2 + ((b : Int)).natAbs.log2 < 1000000
  rw [Int.natAbs_natCast, Int.natAbs_natCast]
  have h1 := Nat.log2_le_self b
  have h2 : (b ^ i).log2 < 7001 := by
    rcases Nat.eq_zero_or_pos (b ^ i) with z | z
    · rw [z]; decide
    · rw [Nat.log2_lt (by omega)]
      have h3 : b ^ i ≤ (2 ^ 7) ^ i := Nat.pow_le_pow_left (by omega) i
      have h4 : (2 ^ 7) ^ i ≤ (2 ^ 7) ^ 1000 := Nat.pow_le_pow_right (by decide) hi
      rw [← Nat.pow_mul 2 7 1000] at h4
      have h5 : (2 : Nat) ^ (7 * 1000) < 2 ^ 7001 := Nat.pow_lt_pow_right (by decide) (by decide)
      omega
  omega
theorem rndX_bd {n : Nat} (m : Mv) : ∀ ps : List Pl, (rndX n m ps).1.length ≤ ps.length := fun ps => by
  have key : ∀ (ps : List Pl) (x : List (List Pl) × List Pl), (ps.foldl (rndS n m) x).1.length ≤ x.1.length + ps.length := by
    intro ps
    induction ps with
    | nil => intro x; simp
    | cons p ps ih =>
      intro x
      rw [List.foldl_cons]
      have h1 := ih (rndS n m x p)
      have h2 : (rndS n m x p).1.length ≤ x.1.length + 1 := by
        unfold rndS
        split
        · omega
        · simp
      rw [List.length_cons]
      omega
  have := key ps ([], [])
  unfold rndX
  simpa using this
theorem rndC_len (n : Nat) (m : Mv) : (rndC n m).length ≤ n * n := by
  have := rndX_bd (n := n) m (allP n)
  rw [allP_len] at this
  exact this
/-- the pairs that are asked -/
structure PairOk (q : Nat × Nat) : Prop where
  n0 : 0 < q.1
  n3 : q.1 ≤ 3
  c0 : 0 < q.2
  c26 : q.2 ≤ 26
  lx : ∀ k, k ≤ q.1 * q.1 → (lexL q.2 k).length ≤ 100
  eq : cntB q.1 q.2 = manB q.1 q.2
/-- pairs as keys -/
def kP (q : Nat × Nat) : D := .tup [.int (q.1 : Nat), .int (q.2 : Nat)]
end VN

/-! WL: rounds counted by figures; the counts are whole -/
namespace VN
open PySem VS PySem.W
def stepN (n : Nat) (m : Mv) (p : Nat) : Nat := (lR n m.w m.d (p / n : Nat) (p % n : Nat)).toNat * n + (lC n m.w m.r (p / n : Nat) (p % n : Nat)).toNat
def codeP (n : Nat) (p : Pl) : Nat := p.1.toNat * n + p.2.toNat
theorem codeP_dm {n : Nat} {p : Pl} (hp : p ∈ allP n) : ((codeP n p / n : Nat) : Int) = p.1 ∧ ((codeP n p % n : Nat) : Int) = p.2 := by
  obtain ⟨h0, h1, h2, h3⟩ := mem_allP.mp hp
  unfold codeP
  have hc : p.2.toNat < n := by omega
  constructor
  · rw [Nat.mul_comm, Nat.mul_add_div (by omega), Nat.div_eq_of_lt hc, Nat.add_zero]
    omega
  · rw [Nat.mul_comm, Nat.mul_add_mod, Nat.mod_eq_of_lt hc]
    omega
theorem codeP_inj {n : Nat} {p q : Pl} (hp : p ∈ allP n) (hq : q ∈ allP n) (h : codeP n p = codeP n q) : p = q := by
  obtain ⟨a1, a2⟩ := codeP_dm hp
  obtain ⟨b1, b2⟩ := codeP_dm hq
  rw [h] at a1 a2
  exact Prod.ext (a1.symm.trans b1) (a2.symm.trans b2)
def SimM (n : Nat) (F : List Pl) (S : Nat) : Prop := ∀ p ∈ allP n, (p ∈ F ↔ S.testBit (codeP n p) = true)
theorem SimM.add {n : Nat} {F : List Pl} {S : Nat} (h : SimM n F S) {q : Pl} (hq : q ∈ allP n) : SimM n (F ++ [q]) (S ||| 2 ^ codeP n q) := fun p hp => by
  rw [Nat.testBit_or, Nat.testBit_two_pow, Bool.or_eq_true, decide_eq_true_iff, List.mem_append, List.mem_singleton, h p hp]
  constructor
  · rintro (z | z)
    · exact .inl z
    · exact .inr (by rw [z])
  · rintro (z | z)
    · exact .inl z
    · exact .inr (codeP_inj hp hq z.symm)
def orbM (n : Nat) (m : Mv) : Nat → Nat → Nat → Nat
  | 0, S, _ => S
  | k + 1, S, p => if S.testBit p = true then S else orbM n m k (S ||| 2 ^ p) (stepN n m p)
def rndT (n : Nat) (m : Mv) (x : Nat × Nat) (p : Nat) : Nat × Nat := if x.2.testBit p = true then x else (x.1 + 1, orbM n m (n * n + 1) x.2 p)
def rndM (n : Nat) (m : Mv) : Nat := ((List.range (n * n)).foldl (rndT n m) (0, 0)).1
def lensM (n : Nat) : List Nat := (allM n).map (rndM n)
def litL1 : List Nat := [1,1,1,1,1,1,1,1]
def litL2 : List Nat := [3,1,1,3,3,1,1,3,4,2,2,2,4,2,2,2,3,1,1,3,4,2,2,2,4,2,2,2,3,1,1,3]
def litL3 : List Nat := [3,3,3,3,3,3,3,3,3,6,2,2,2,2,6,2,6,2,6,2,2,6,2,2,6,2,2,5,5,5,5,5,5,5,5,5,6,2,2,2,6,2,2,2,6,6,6,6,2,2,2,2,2,2,9,3,3,3,3,3,3,3,3,3,3,3,3,3,3,3,3,3]
def litL4 : List Nat := [6,4,6,4,4,6,4,6,6,4,6,4,4,6,4,6,10,2,4,2,2,4,2,10,4,2,10,2,2,10,2,4,12,4,8,4,8,4,8,4,12,4,8,4,8,4,8,4,10,8,10,8,8,8,8,8,10,8,10,8,8,8,8,8,10,2,4,2,2,10,2,4,4,2,10,2,2,4,2,10,12,8,12,8,4,4,4,4,8,8,8,8,4,4,4,4,16,4,8,4,4,4,4,4,8,4,8,4,4,4,4,4,6,4,6,4,4,6,4,6,6,4,6,4,4,6,4,6]
def litL5 : List Nat := [7,7,7,7,7,7,7,7,7,7,7,7,7,7,7,7,7,7,7,7,7,7,7,7,7,15,3,3,3,3,3,3,3,3,15,3,3,3,15,3,3,3,15,3,3,3,15,3,3,3,15,3,3,3,3,15,3,3,3,3,15,3,3,3,3,15,3,3,3,3,15,3,3,3,3,13,13,13,13,13,13,13,13,13,13,13,13,13,13,13,13,13,13,13,13,13,13,13,13,13,15,3,3,3,3,3,15,3,3,3,3,3,15,3,3,3,3,3,15,3,3,3,3,3,15,15,15,15,15,15,3,3,3,3,3,3,3,3,3,3,3,3,3,3,3,3,3,3,3,3,25,5,5,5,5,5,5,5,5,5,5,5,5,5,5,5,5,5,5,5,5,5,5,5,5,7,7,7,7,7,7,7,7,7,7,7,7,7,7,7,7,7,7,7,7,7,7,7,7,7]
def litL6 : List Nat := [11,9,11,9,11,9,9,11,9,11,9,11,11,9,11,9,11,9,9,11,9,11,9,11,11,9,11,9,11,9,9,11,9,11,9,11,21,3,7,9,7,3,3,7,9,7,3,21,7,9,7,3,21,3,9,7,3,21,3,7,7,3,21,3,7,9,3,21,3,7,9,7,24,6,8,18,8,6,18,6,6,18,6,6,24,6,8,18,8,6,18,6,6,18,6,6,24,6,8,18,8,6,18,6,6,18,6,6,20,18,20,18,20,18,18,18,18,18,18,18,20,18,20,18,20,18,18,18,18,18,18,18,20,18,20,18,20,18,18,18,18,18,18,18,21,3,7,9,7,3,3,21,3,7,9,7,7,3,21,3,7,9,9,7,3,21,3,7,7,9,7,3,21,3,3,7,9,7,3,21,24,18,24,18,24,18,6,6,6,6,6,6,8,6,8,6,8,6,18,18,18,18,18,18,8,6,8,6,8,6,6,6,6,6,6,6,36,6,12,18,12,6,6,6,6,6,6,6,12,6,12,6,12,6,18,6,6,18,6,6,12,6,12,6,12,6,6,6,6,6,6,6,11,9,11,9,11,9,9,11,9,11,9,11,11,9,11,9,11,9,9,11,9,11,9,11,11,9,11,9,11,9,9,11,9,11,9,11]
def litL7 : List Nat := [13,13,13,13,13,13,13,13,13,13,13,13,13,13,13,13,13,13,13,13,13,13,13,13,13,13,13,13,13,13,13,13,13,13,13,13,13,13,13,13,13,13,13,13,13,13,13,13,13,28,4,4,4,4,4,4,4,4,4,4,4,4,28,4,4,4,4,4,28,4,4,4,4,4,28,4,4,4,4,4,28,4,4,4,4,4,28,4,4,4,4,4,28,4,4,4,4,4,28,4,4,4,4,4,4,28,4,4,4,4,4,4,28,4,4,4,4,4,4,28,4,4,4,4,4,4,28,4,4,4,4,4,4,28,4,4,4,4,4,4,28,4,4,4,4,4,4,25,25,25,25,25,25,25,25,25,25,25,25,25,25,25,25,25,25,25,25,25,25,25,25,25,25,25,25,25,25,25,25,25,25,25,25,25,25,25,25,25,25,25,25,25,25,25,25,25,28,4,4,4,4,4,4,4,28,4,4,4,4,4,4,4,28,4,4,4,4,4,4,4,28,4,4,4,4,4,4,4,28,4,4,4,4,4,4,4,28,4,4,4,4,4,4,4,28,28,28,28,28,28,28,28,4,4,4,4,4,4,4,4,4,4,4,4,4,4,4,4,4,4,4,4,4,4,4,4,4,4,4,4,4,4,4,4,4,4,4,4,4,4,4,4,4,4,49,7,7,7,7,7,7,7,7,7,7,7,7,7,7,7,7,7,7,7,7,7,7,7,7,7,7,7,7,7,7,7,7,7,7,7,7,7,7,7,7,7,7,7,7,7,7,7,7,13,13,13,13,13,13,13,13,13,13,13,13,13,13,13,13,13,13,13,13,13,13,13,13,13,13,13,13,13,13,13,13,13,13,13,13,13,13,13,13,13,13,13,13,13,13,13,13,13]
end VN

/-! VTM: dict([(key, value), ..]), the keys tuples of ints and texts -/
namespace VS
open PySem PySem.Spec L2

def putAllK (acc : List (List Key × V)) (bs : List (List Key × Addr × V)) : List (List Key × V) := bs.foldl (fun acc q => putK acc q.1 q.2.2) acc
/-- one pair, and what the state holds of it -/
def PairV (H : Hp) (q : List Key × Addr × V) (r : List Key × Addr × Value) : Prop := r.1 = q.1 ∧ r.2.1 = q.2.1 ∧ H q.2.1 = some (.tup (q.1.map kV)) ∧ RelV q.2.2 r.2.2
def rDictT (K : PySem.W.Frag) : List V → Hp → VK → Prop := fun xs H Q => ∃ (a : Addr) (ps : List Addr) (bs : List (List Key × Addr × V)), xs = [.ref a] ∧ SqL K H a (ps.map V.ref) ∧
  Paired (fun p q => SqT K H p [.ref q.2.1, q.2.2] ∧ H q.2.1 = some (.tup (q.1.map kV))) ps bs ∧ ∀ p, H p = none → Q (.ref p) (upd H p (.dT (putAllK [] bs)))
section
variable {X : Cx}
end
def opDict : List D → (RV → Prop) → Prop
  | [.lst xs], Q => ∃ kvs : List (D × D), xs = kvs.map (fun p => D.tup [p.1, p.2]) ∧ (∀ p ∈ kvs, isKT p.1 = true) ∧ Q (.fr (.dic true (mergeD [] kvs)))
  | _, _ => False
end VS

/-! WM: movements made, once more -/
namespace VN
open PySem VS PySem.W
end VN

/-! VTN: own defs called within an except suite (the caught error tracked); texts times 0 -/
namespace VSN
open PySem PySem.Spec PyProof.Rows L2 HotX
/-! ### what a def promises wherever it is called -/
structure FnN (P : Program) (w : World) (K : PySem.W.Frag) (mg : Str → Option Value) (base : Heap) (CX : CXT) (k : Nat) (f : Addr) (fd : FuncData) (ps : List Str) (sp : Sp) : Prop where
  len : ∀ vs H Q E, sp vs H Q E → vs.length = ps.length
  run : ∀ (A : Around) (outer : List PySem.Env) (s : Shared) (H : Hp) (args : Args) (us : List Value) (vs : List V) (Q : VK) (E : XK), L2H.RoomH k A → Env0 P w K mg base A outer s H → BindsTo s fd args (ps.zip us) → Vals vs us → sp vs H Q E →
    codeAny (model P w) A (.call (.ref f) args) (CR CX outer P w H s Q E) s
theorem FnN.mono {P : Program} {w : World} {K : PySem.W.Frag} {mg : Str → Option Value} {base : Heap} {CX : CXT} {j k : Nat} {f : Addr} {fd : FuncData} {ps : List Str} {sp : Sp} (F : FnN P w K mg base CX j f fd ps sp) (h : j ≤ k) :
    FnN P w K mg base CX k f fd ps sp := ⟨F.len, fun A outer s H args us vs Q E hr => F.run A outer s H args us vs Q E (hr.mono h)⟩
def cxN (CX : CXT) (P : Program) (w : World) (K : PySem.W.Frag) (mg : Str → Option Value) (base : Heap) (N : List Str) (qual : Str) (scope : Scope) (f : Addr) (cd : Value) (A : Around) (outer : List PySem.Env) (s : Shared) (H : Hp) (E : XK) : Cx :=
  { cxOf CX P w K mg base N qual scope f cd A outer s H E with calm := false, pn := [] }
section
variable {X : Cx} {CX : CXT} {k : Nat} {f C : Addr} {fd : FuncData} {ps : List Str} {sp : Sp} {E : L2.St → XK} {x m : Str} {q pos apos : Pos} {e o : Expr} {es : List Expr} {ta : TE} {t : TA}
end
end VSN
namespace VS
open PySem PySem.Spec L2 VSN
/-! ### the rules -/
structure FnD (c : Cfg) (x : Str) (ms : List Bool) (F : FSp) : Prop where
  ex : ∃ f fd ps, FnN c.P c.w c.K c.mg c.base (cxC c) c.k f fd ps (spV c ms F) ∧ c.mg x = some (.ref f) ∧ PySem.W.keepIn c.K (.ref f) = true ∧ Binds c.K fd ps []
section
variable {c : Cfg} {k : Nat} {N : List Str} {sc : Scope} {x : Str} {ms : List Bool} {F : FSp}
theorem FnD.lvl {f : Addr} {fd : FuncData} {ps : List Str} {j : Nat} (h : FnN c.P c.w c.K c.mg c.base (cxC c) j f fd ps (spV c ms F)) (hm : c.mg x = some (.ref f)) (hk : PySem.W.keepIn c.K (.ref f) = true) (hb : Binds c.K fd ps []) (l : j ≤ k) :
    FnD (c.lv k) x ms F := ⟨⟨f, fd, ps, h.mono l, hm, hk, hb⟩⟩
end
/-! ### a text times an int, 0 too -/
def rMulZ : R2 := fun x y H Q => ∃ (a : Str) (n : Int), x = .str a ∧ y = .int n ∧ 0 ≤ n ∧ n ≤ 1000 ∧ a.length ≤ 1000 ∧ Q (.str (timesS a n)) H
def opMulZ : D → D → (RV → Prop) → Prop
  | .str a, .int n, Q => 0 ≤ n ∧ n ≤ 1000 ∧ a.length ≤ 1000 ∧ Q (.val (.str (timesS a n)))
  | _, _, _ => False
end VS

/-! VTO: a tuple times an int, 1 too -/
namespace L2
open PySem PySem.Spec PyProof.Rows
def rRepT1 (K : PySem.W.Frag) : R2 := fun x y H Q => ∃ l xs, x = .ref l ∧ y = .int 1 ∧ SqT K H l xs ∧ Q (.ref l) H
end L2
namespace VS
open PySem PySem.Spec L2
def opMulT : D → D → (RV → Prop) → Prop
  | .tup xs, .int n, Q => xs ≠ [] ∧ 1 ≤ n ∧ n ≤ 1000 ∧ xs.length ≤ 1000 ∧ Q (.val (.tup (List.replicate n.toNat xs).flatten))
  | _, _, _ => False
end VS

/-! VTP: range(i, j, c); zip of two tuples -/
namespace VS
open PySem PySem.Spec L2
section
variable {c : Cfg} {G B : Hp}
def rgC (lo st : Int) (n : Nat) : List D := (List.range n).map fun i => .int (lo + (i : Nat) * st)
def iRg3 (ta : AT) : IT := fun env Q Xq => ta env (fun rs e1 => ∃ i j st n, rs = [.val (.int i), .val (.int j), .val (.int st)] ∧ RgC i j st n ∧ Q (rgC i st n) none e1) Xq
/-! zip of two tuples -/
def zipD (xs ys : List D) : List D := List.zipWith (fun x y => .tup [x, y]) xs ys
def tupR (env : Env) : RV → Option (List D)
  | .val (.tup ds) => some ds
  | .slot i => match env[i]? with
    | some (.val (.tup ds)) => some ds
    | _ => none
  | _ => none
def iZp (ta : AT) : IT := fun env Q Xq => ta env (fun rs e1 => ∃ r1 r2 xs ys, rs = [r1, r2] ∧ tupR e1 r1 = some xs ∧ tupR e1 r2 = some ys ∧ Q (zipD xs ys) none e1) Xq
end
end VS

/-! WN: cloths laid beside and above one another -/
namespace VN
open PySem VS PySem.W
structure Cl (R : List Str) (w : Nat) : Prop where
  n0 : 0 < R.length
  n24 : R.length ≤ 24
  w0 : 0 < w
  w24 : w ≤ 24
  len : ∀ r ∈ R, r.length = w
  ok : ∀ r ∈ R, PyData.strOk r = true
theorem Cl.head {R : List Str} {w : Nat} (h : Cl R w) : ∃ r0, r0.length = w ∧ L2.atI (R.map D.str) 0 = some (D.str r0) := by
  cases R with
  | nil => exact absurd h.n0 (by decide)
  | cons r0 R => exact ⟨r0, h.len r0 (by simp), L2atI0⟩
where L2atI0 {r0 : Str} {R : List Str} : L2.atI ((r0 :: R).map D.str) 0 = some (D.str r0) := atI_of (j := 0) rfl rfl
/-- what a laying answers -/
def ResOk (d : D) : Prop := (∃ s, d = .str s ∧ PyData.strOk s = true) ∨ ∃ R : List Str, d = .tup (R.map D.str) ∧ ∀ r ∈ R, PyData.strOk r = true
def besD (R S : List Str) (w v : Nat) : D := if R.length = S.length then (if 24 < w + v then .str "TooBig" else .tup ((List.zipWith (· ++ ·) R S).map D.str)) else .str "NoFit"
def aboD (R S : List Str) (w v : Nat) : D := if w = v then (if 24 < R.length + S.length then .str "TooBig" else .tup ((R ++ S).map D.str)) else .str "NoFit"
def acrD (R : List Str) (w k : Nat) : D := if 24 < w * k then .str "TooBig" else .tup ((R.map fun r => timesS r (k : Nat)).map D.str)
def dowD (R : List Str) (k : Nat) : D := if 24 < R.length * k then .str "TooBig" else .tup (((List.replicate k R).flatten).map D.str)
open L2 in
theorem rg_even {z : Int} (h0 : 0 ≤ z) (h1 : z ≤ 1000) : ∃ n : Nat, RgC 26 z 2 n ∧ ∀ i : Nat, i < n → 26 + (i : Int) * 2 < z := by
  by_cases h : 26 < z
  · refine ⟨((z - 26 - 1) / 2 + 1).toNat, ⟨by decide, by decide, ?_, ?_⟩, fun i hi => by omega⟩
    · unfold Builtin.Range.small Builtin.Range.rangeSize
      simp only [Builtin.Range.rangeFitsLong, Bool.and_eq_true, Bool.or_eq_true, decide_eq_true_eq, beq_iff_eq, show ((2 : Int) > 0) by decide, if_true]
      rw [if_pos h]
      omega
    · unfold Builtin.Range.rangeSize
      rw [if_pos (by decide), if_pos h]
      omega
  · refine ⟨0, ⟨by decide, by decide, ?_, ?_⟩, fun i hi => by omega⟩
    · unfold Builtin.Range.small Builtin.Range.rangeSize
      simp only [Builtin.Range.rangeFitsLong, Bool.and_eq_true, Bool.or_eq_true, decide_eq_true_eq, beq_iff_eq, show ((2 : Int) > 0) by decide, if_true]
      rw [if_neg h]
      omega
    · unfold Builtin.Range.rangeSize
      rw [if_pos (by decide), if_neg h]
      rfl
end VN

/-! VTQ: list(text) -/
namespace VS
open PySem PySem.Spec PyProof.Rows L2
def sgV (z : Str) : List V := z.cps.toList.map fun ch => V.str ⟨#[ch]⟩
def rListS : List V → Hp → VK → Prop := fun xs H Q => ∃ z : Str, xs = [.str z] ∧ z.length ≤ sizeLine ∧ ∀ l, H l = none → Q (.ref l) (upd H l (.lst (sgV z)))
def opListS : List D → (RV → Prop) → Prop
  | [.str z], Q => z.length ≤ sizeLine ∧ Q (.fr (.lst (signs z)))
  | _, _ => False
end VS

/-! WO: rows and letters of cloths laid -/
namespace VN
open PySem VS PySem.W
def besF : D → D
  | .tup [.str a, .str b] => .str (a ++ b)
  | _ => .non
def tmsF (k : Nat) : D → D
  | .str r => .str (timesS r (k : Nat))
  | _ => .non
def lsF : D → D
  | .str r => .lst (signs r)
  | _ => .non
/-- letters again and again -/
def agF (r : Str) (w : Nat) : D → D
  | .int c => .str ⟨#[r.cps.toList.getD (c.toNat % w) 0]⟩
  | _ => .non
/-- rows again and again -/
def arF (R : List Str) (n : Nat) : D → D
  | .int c => .str (R.getD (c.toNat % n) "")
  | _ => .non
/-- the letters of a row again, up to n of them -/
def lgT (n w : Nat) (r : Str) : Str := ⟨((List.range n).map fun i => r.cps.toList.getD (i % w) 0).toArray⟩
def lgF (n w : Nat) : D → D
  | .str r => .str (lgT n w r)
  | _ => .non
def zpF (R S : List Str) : D → D
  | .int c => .str (R.getD c.toNat "" ++ S.getD c.toNat "")
  | _ => .non
def ujF : D → D
  | .lst ds => .str ⟨(ds.map fun d => match d with | .str s => s.cps.toList.headD 0 | _ => 0).toArray⟩
  | _ => .non
end VN

/-! VTR: sorted(set(text)) -/
namespace L2
open PySem PySem.Spec PyProof.Rows
def txE (e : Int × Value) : Str := strOf e.2
/-- what a set of texts holds, its table fit to be walked -/
structure TxSet (w : World) (es : Array (Int × Value)) (t : SetTable) (S : Str → Bool) (n : Nat) : Prop where
  good : ∀ e ∈ es.toList, ∃ k tk, e.2 = Value.str k tk ∧ e.1 = hashStr w k
  nd : (es.toList.map txE).Nodup
  mem : ∀ k, S k = true ↔ k ∈ es.toList.map txE
  bd : es.size < scanBound
  fit : t.fits es.size = true
  num : es.size = n
  ris : Ris t.place.toList
  led : w.params.followText "set-order" = true ∨ t.led = true
def SetX (w : World) (h : Heap) (a : Addr) (S : Str → Bool) (n : Nat) : Prop :=
  ∃ o es ep t, h.get? a = some o ∧ o.ExactSet ∧ o.data = .set es ep t ∧ TxSet w es t S n
section
variable {P : Program} {w : World} {h h' : Heap} {a : Addr} {S : Str → Bool} {n : Nat}
theorem SetX.at' (R : SetX w h a S n) (k : ∀ o, h.get? a = some o → h'.get? a = some o) : SetX w h' a S n := by
  obtain ⟨o, es, ep, t, ho, r⟩ := R
  exact ⟨o, es, ep, t, k o ho, r⟩
theorem SetX.same {S' : Str → Bool} (R : SetX w h a S n) (e : ∀ k, S' k = S k) : SetX w h a S' n := by
  rw [show S' = S from funext e]; exact R
end
section
variable {P : Program} {w : World} {A : Around} {E : Value → Shared → Prop} {s : Shared} {a : Addr} {S : Str → Bool} {n : Nat}
end
end L2

/-! VTS: set(text), sorted(set(text)) -/
namespace L2
open PySem PySem.Spec PyProof.Rows
def inSg (z : Str) (i : Nat) (k : Str) : Bool := decide (k ∈ (z.cps.toList.take i).map fun c => (⟨#[c]⟩ : Str))
section
variable {P : Program} {w : World} {A : Around} {E : Value → Shared → Prop} {s : Shared}
end
end L2
namespace VS
open PySem PySem.Spec L2 PyProof.Rows
/-! sorted(set(x)), x a text of small letters -/
def rSortSet : V → Hp → VK → Prop := fun x H Q => ∃ z : Str, x = .str z ∧ z.length ≤ 3000 ∧ (∀ c ∈ z.cps.toList, 97 ≤ c ∧ c < 123) ∧
  ∀ cs : List Nat, cs.Pairwise (· < ·) → (∀ c, c ∈ cs ↔ c ∈ z.cps.toList) → ∀ l, H l = none → Q (.ref l) (upd H l (.lst (cs.map fun c => V.str ⟨#[c]⟩)))
def opSortSet : D → (RV → Prop) → Prop
  | .str z, Q => z.length ≤ 3000 ∧ (∀ c ∈ z.cps.toList, 97 ≤ c ∧ c < 123) ∧ ∀ cs : List Nat, cs.Pairwise (· < ·) → (∀ c, c ∈ cs ↔ c ∈ z.cps.toList) → Q (.fr (.lst (cs.map fun c => D.str ⟨#[c]⟩)))
  | _, _ => False
end VS

/-! VTU: sorted(d.items()), d from texts to texts; dict(list of pairs), the keys texts -/
namespace VS
open PySem PySem.Spec L2 PyProof.Rows PySem.W
/-! ### a dict from texts to texts -/
abbrev txK (p : Str × Str) : Key × V := (Sum.inr p.1, V.str p.2)
def dP2 (p : Str × Str) : D := .tup [.str p.1, .str p.2]
def rSortItems (K : PySem.W.Frag) : V → Hp → VK → Prop := fun x H Q => ∃ (d : Addr) (ps : List (Str × Str)), x = .ref d ∧ Rd H d (.dK (ps.map txK)) ∧ (∀ p ∈ ps, PyData.strOk p.1 = true ∧ PyData.strOk p.2 = true) ∧
  Sortable (ps.map fun p => (dP2 p).toPy) ∧
  ∀ (H' : Hp) (zs : List (V × D)) (l : Addr), Same H H' → (∀ z ∈ zs, ∃ (t : Addr) (p : Str × Str), z = (V.ref t, dP2 p) ∧ H' t = some (.tup [.str p.1, .str p.2])) → zs.map (·.2) = (ps.map dP2).mergeSort leD → H' l = none → Q (.ref l) (upd H' l (.lst (zs.map (·.1))))
section
variable {X : Cx} {e : Expr} {te : TE} {p apos cpos pos : Pos}
end
def opSortItems : D → (RV → Prop) → Prop
  | .dic false kvs, Q => ∃ ps : List (Str × Str), kvs = ps.map (fun p => (D.str p.1, D.str p.2)) ∧ (∀ p ∈ ps, PyData.strOk p.1 = true ∧ PyData.strOk p.2 = true) ∧ Sortable (ps.map fun p => (dP2 p).toPy) ∧ Q (.fr (.lst ((ps.map dP2).mergeSort leD)))
  | _, _ => False
/-! ### dict([(text, value), ..]) -/
def opDictS : List D → (RV → Prop) → Prop
  | [.lst xs], Q => ∃ ps : List (Str × Str), xs = ps.map dP2 ∧ Q (.fr (.dic false (mergeD [] (ps.map fun p => (D.str p.1, D.str p.2)))))
  | _, _ => False
def rDictS (K : PySem.W.Frag) : List V → Hp → VK → Prop := fun xs H Q => ∃ (a : Addr) (ps : List Addr) (kvs : List (Key × V)), xs = [.ref a] ∧ SqL K H a (ps.map V.ref) ∧ Paired (fun p kv => SqT K H p [kV kv.1, kv.2]) ps kvs ∧
    ∀ p, H p = none → Q (.ref p) (upd H p (.dK (mergeK [] kvs)))
end VS

/-! WP: carpets dyed, letters in the order they are met -/
namespace VN
open PySem VS PySem.W
/-! dicts of letters -/
def nmD (L : List Nat) : List (D × D) := L.map fun x => (sgn x, sgn (97 + L.idxOf x))
/-! the letters met, in order -/
def step (L : List Nat) (c : Nat) : List Nat := if c ∈ L then L else L ++ [c]
def metR (L : List Nat) (g : Int → Nat) (j : Nat) : List Nat := (List.range j).foldl (fun L c => step L (g (c : Nat))) L
def metA (n : Nat) (f : Cp) (i : Nat) : List Nat := (List.range i).foldl (fun L r => metR L (f (r : Nat)) n) []
structure MetOk (L : List Nat) : Prop where
  nd : L.Nodup
  ab : ∀ x ∈ L, 97 ≤ x ∧ x < 123
theorem MetOk.nil : MetOk [] := ⟨List.nodup_nil, fun x h => nomatch h⟩
theorem MetOk.step {L : List Nat} (h : MetOk L) {c : Nat} (hc : 97 ≤ c ∧ c < 123) : MetOk (step L c) := by
  unfold VN.step
  split
  · exact h
  · rename_i hn
    refine ⟨List.nodup_append.mpr ⟨h.nd, by simp, fun a ha b hb => ?_⟩, fun x hx => ?_⟩
    · rw [List.mem_singleton.mp hb]
      exact fun e => hn (e ▸ ha)
    · rcases List.mem_append.mp hx with z | z
      · exact h.ab x z
      · rw [List.mem_singleton.mp z]; exact hc
theorem MetOk.len {L : List Nat} (h : MetOk L) : L.length ≤ 26 := by
  have := nodup_le (L := (List.range 26).map fun i => 97 + i) h.nd fun x hx => by
    have := h.ab x hx
    exact List.mem_map.mpr ⟨x - 97, List.mem_range.mpr (by omega), by omega⟩
  simpa using this
theorem MetOk.lt {L : List Nat} (h : MetOk L) {c : Nat} (hc : 97 ≤ c ∧ c < 123) (hn : c ∉ L) : L.length < 26 := by
  have := (h.step hc).len
  unfold VN.step at this
  rw [if_neg hn, List.length_append, List.length_singleton] at this
  omega
def metC (n : Nat) (f : Cp) : List Nat := metA n f n
def formC (n : Nat) (f : Cp) : Cp := fun r c => 97 + (metC n f).idxOf (f r c)
/-! the pairs, sorted -/
abbrev sg1 (x : Nat) : Str := ⟨#[x]⟩
def psL (L : List Nat) : List (Str × Str) := L.map fun x => (sg1 x, sg1 (97 + L.idxOf x))
def srtD (ps : List (Str × Str)) : List D := (ps.map dP2).mergeSort leD
def unP2 : D → Str × Str
  | .tup [.str a, .str b] => (a, b)
  | _ => ("", "")
/-! dict(pairs) -/
end VN
namespace VN
open PySem VS PySem.W
/-! renamed letters -/
def InjC (n : Nat) (f : Cp) (g : Nat → Nat) : Prop := ∀ r c r' c' : Nat, r < n → c < n → r' < n → c' < n → g (f r c) = g (f r' c') → f r c = f r' c'
/-! a dyeing -/
def DyOk (n : Nat) (f : Cp) (ps : List (Str × Str)) (g : Nat → Nat) : Prop := ∀ r c : Nat, r < n → c < n → (sg1 (f r c), sg1 (g (f r c))) ∈ ps
def dyN (seed m : Int) (k : Nat) : Nat := 97 + ((seed + m * (k : Int)) % 26).toNat
def dyP (cs : List Nat) (seed m : Int) : List (Str × Str) := (List.range cs.length).map fun k => (sg1 (cs.getD k 0), sg1 (dyN seed m k))
def dyG (cs : List Nat) (seed m : Int) (x : Nat) : Nat := dyN seed m (cs.idxOf x)
end VN
namespace VN
open PySem VS PySem.W
def rowGF (g : Nat → Nat) : D → D
  | .str s => .str ⟨(s.cps.toList.map g).toArray⟩
  | _ => .non
end VN
namespace VN
open PySem VS PySem.W
theorem eq_lsame {xs : List D} {Q : RV → Prop} (h : D.okL 59 xs = true) (q : Q (.val (.bl true))) : opEq (.lst xs) (.lst xs) Q := eq_same (ok_lst h) (fun b e => by cases e) (fun b e => by cases e) q
/-- all letters of a carpet in one text -/
def allS (n : Nat) (f : Cp) : Str := Txt.join "" ((List.range n).map fun r => rowS n (f (r : Nat)))
end VN
namespace VN
open PySem VS PySem.W
def sgGF (g : Nat → Nat) : D → D
  | .str s => sgn (g (s.cps.toList.headD 0))
  | _ => .non
def dyF (cs : List Nat) (seed m : Int) : D → D
  | .int k => .tup [sgn (cs.getD k.toNat 0), sgn (abcL ((seed + m * k) % 26))]
  | _ => .non
end VN

/-! WQ: least forms by colours -/
namespace VN
open PySem VS PySem.W
abbrev frD (n : Nat) (f : Cp) : D := cpD n (formC n f)
abbrev dyL (n : Nat) (f : Cp) : List D := srtD (psL (metC n f))
def trD (n : Nat) (f : Cp) (m : Mv) : D := .tup [frD n (movF n m f), dM m, .lst (dyL n (movF n m f))]
def LeastF (n : Nat) (f : Cp) (m : Mv) : Prop := m.ok n ∧ ∀ m' : Mv, m'.ok n → ltD (frD n (movF n m' f)) (frD n (movF n m f)) = false
/-! a dict that grows by the letters of a list -/
end VN

/-! VTV: None in a dict whose keys are tuples -/
namespace L2
open PySem PySem.Spec PyProof.Rows
section
variable {P : Program} {w : World} {A : Around} {E : Value → Shared → Prop} {s : Shared}
abbrev tkM (P : Program) (w : World) := tupleKind (mixKind P w)
end
end L2
namespace VS
open PySem PySem.Spec L2
def rNoneNI : R2 := fun x y H Q => ∃ a kvs, x = .non ∧ y = .ref a ∧ Rd H a (.dT kvs) ∧ Q (.bl true) H
def opNiT : D → D → (RV → Prop) → Prop
  | .non, .dic true kvs, Q => kvs = kvs ∧ Q (.val (.bl true))
  | k, .dic true kvs, Q => keyOk true k = true ∧ Q (.val (.bl (!(dget kvs k).isSome)))
  | _, _, _ => False
end VS

/-! VTW: zip of two texts -/
namespace L2
open PySem PySem.Spec PyProof.Rows
def ItzS (x y : Str) : It :=
  ⟨fun i H => i < x.cps.size ∧ i < y.cps.size,
    fun i H v H' => ∃ (T : Addr) (c d : Nat), v = .ref T ∧ H T = none ∧ H' = upd H T (.tup [.str ⟨#[c]⟩, .str ⟨#[d]⟩]) ∧ x.cps[i]? = some c ∧ y.cps[i]? = some d,
    fun i H => i = min x.cps.size y.cps.size⟩
abbrev zS1 (h : Heap) (x : Str) (t : Tok) : Heap := h.push { cls := .type (strIterType x), data := .fields #[.str x t, .int 0 0] }
abbrev zS2 (h : Heap) (x y : Str) (t u : Tok) : Heap := (zS1 h x t).push { cls := .type (strIterType y), data := .fields #[.str y u, .int 0 0] }
abbrev zS3 (h : Heap) (x y : Str) (t u : Tok) : Heap := (zS2 h x y t u).push { cls := .type "tuple", data := .seq #[.ref h.objs.size, .ref (zS1 h x t).objs.size] }
abbrev zS4 (h : Heap) (x y : Str) (t u : Tok) : Heap := (zS3 h x y t u).push { cls := .type "tuple", data := .seq #[.none, .none] }
abbrev zS5 (h : Heap) (x y : Str) (t u : Tok) : Heap := (zS4 h x y t u).push { cls := .type "zip", data := .fields #[.none, .bool false, .bool false, .ref (zS2 h x y t u).objs.size, .ref (zS3 h x y t u).objs.size] }
section
variable {prog : Program} {w : World} {A : Around} {E : Value → Shared → Prop} {s : Shared}
end
def iZipS (ta : TA) : TI := fun σ H R => ta σ H fun vs H1 => ∃ x y : Str, vs = [.str x, .str y] ∧ R (ItzS x y) H1
end L2
namespace VS
open PySem PySem.Spec L2
variable {c : Cfg} {G B : Hp}
def strR (env : Env) : RV → Option Str
  | .val (.str x) => some x
  | .slot i => match env[i]? with
    | some (.val (.str x)) => some x
    | _ => none
  | _ => none
def iZpS (ta : AT) : IT := fun env Q Xq => ta env (fun rs e1 => ∃ r1 r2 x y, rs = [r1, r2] ∧ strR e1 r1 = some x ∧ strR e1 r2 = some y ∧ Q (zipD (signs x) (signs y)) none e1) Xq
end VS

/-! VTX: len(set(list of texts)), no two alike -/
namespace L2
open PySem PySem.Spec PyProof.Rows
def inTl (ys : List Str) (i : Nat) (k : Str) : Bool := decide (k ∈ ys.take i)
theorem StrsAre.len : ∀ {us : List Value} {ys : List Str}, StrsAre us ys → us.length = ys.length
  | _, _, .nil => rfl
  | _, _, .cons _ _ h => by rw [List.length_cons, List.length_cons, StrsAre.len h]
section
variable {P : Program} {w : World} {A : Around} {E : Value → Shared → Prop} {s : Shared}
end
end L2
namespace VS
open PySem PySem.Spec L2
def rLenSetS (K : PySem.W.Frag) : V → Hp → VK → Prop := fun x H Q => ∃ (l : Addr) (ys : List Str), x = .ref l ∧ SqL K H l (ys.map V.str) ∧ ys.Nodup ∧ ys.length ≤ 3000 ∧ Q (.int (ys.length : Nat)) H
def opLenSetS : D → (RV → Prop) → Prop
  | .lst xs, Q => ∃ ys : List Str, xs = ys.map D.str ∧ ys.Nodup ∧ ys.length ≤ 3000 ∧ Q (.val (.int (ys.length : Nat)))
  | _, _ => False
end VS

/-! WR: kin by colours -/
namespace VN
open PySem VS PySem.W
def Alk (n : Nat) (f g : Cp) : Prop := ∀ r c r' c' : Nat, r < n → c < n → r' < n → c' < n → (f r c = f r' c' ↔ g r c = g r' c')
def dpD (ps : List (Nat × Nat)) : List (D × D) := ps.map fun p => (sgn p.1, sgn p.2)
def spS (ps : List (Nat × Nat)) : List (Str × Str) := ps.map fun p => (sg1 p.1, sg1 p.2)
def swp (ps : List (Nat × Nat)) : List (Nat × Nat) := ps.map fun p => (p.2, p.1)
def Vis (n i j r c : Nat) : Prop := c < n ∧ (r < i ∨ (r = i ∧ c < j))
structure Grw (n : Nat) (f g : Cp) (i j : Nat) (ps : List (Nat × Nat)) : Prop where
  n1 : (ps.map (·.1)).Nodup
  n2 : (ps.map (·.2)).Nodup
  has : ∀ r c : Nat, Vis n i j r c → (f r c, g r c) ∈ ps
  src : ∀ p ∈ ps, ∃ r c : Nat, Vis n i j r c ∧ p = (f r c, g r c)
theorem nd_uniq {α β : Type} {ps : List (α × β)} {x : α} {y y' : β} (nd : (ps.map (·.1)).Nodup) (h : (x, y) ∈ ps) (h' : (x, y') ∈ ps) : y = y' := by
  induction ps with
  | nil => cases h
  | cons p ps ih =>
    rw [List.map_cons, List.nodup_cons] at nd
    rcases List.mem_cons.mp h with e | e <;> rcases List.mem_cons.mp h' with e' | e'
    · rw [← e] at e'; cases e'; rfl
    · exact absurd (List.mem_map.mpr ⟨_, e', by rw [← e]⟩) nd.1
    · exact absurd (List.mem_map.mpr ⟨_, e, by rw [← e']⟩) nd.1
    · exact ih nd.2 e e'
theorem Grw.nil {n : Nat} {f g : Cp} : Grw n f g 0 0 [] := ⟨List.nodup_nil, List.nodup_nil, fun r c h => by unfold Vis at h; omega, fun p h => nomatch h⟩
theorem Grw.row {n : Nat} {f g : Cp} {i : Nat} {ps : List (Nat × Nat)} (h : Grw n f g i n ps) : Grw n f g (i + 1) 0 ps := by
  have e : ∀ r c, Vis n (i + 1) 0 r c ↔ Vis n i n r c := fun r c => by unfold Vis; omega
  exact ⟨h.n1, h.n2, fun r c v => h.has r c ((e r c).mp v), fun p hp => by obtain ⟨r, c, v, e1⟩ := h.src p hp; exact ⟨r, c, (e r c).mpr v, e1⟩⟩
theorem Grw.old {n : Nat} {f g : Cp} {i j : Nat} {ps : List (Nat × Nat)} (h : Grw n f g i j ps) (hp : (f i j, g i j) ∈ ps) : Grw n f g i (j + 1) ps := by
  refine ⟨h.n1, h.n2, fun r c v => ?_, fun p q => ?_⟩
  · by_cases e : r = i ∧ c = j
    · obtain ⟨rfl, rfl⟩ := e
      exact hp
    · exact h.has r c (by unfold Vis at v ⊢; omega)
  · obtain ⟨r, c, v, e⟩ := h.src p q
    exact ⟨r, c, by unfold Vis at v ⊢; omega, e⟩
theorem Grw.snoc {n : Nat} {f g : Cp} {i j : Nat} {ps : List (Nat × Nat)} (h : Grw n f g i j ps) (hj : j < n) (h1 : f i j ∉ ps.map (·.1)) (h2 : g i j ∉ ps.map (·.2)) : Grw n f g i (j + 1) (ps ++ [(f i j, g i j)]) := by
  have nd : ∀ {L : List Nat} {x : Nat}, L.Nodup → x ∉ L → (L ++ [x]).Nodup := fun {L x} a b => List.nodup_append.mpr ⟨a, by simp, fun u hu v hv => by rw [List.mem_singleton.mp hv]; exact fun e => b (e ▸ hu)⟩
  refine ⟨by rw [List.map_append]; exact nd h.n1 h1, by rw [List.map_append]; exact nd h.n2 h2, fun r c v => ?_, fun p q => ?_⟩
  · by_cases e : r = i ∧ c = j
    · obtain ⟨rfl, rfl⟩ := e
      simp
    · exact List.mem_append.mpr (.inl (h.has r c (by unfold Vis at v ⊢; omega)))
  · rcases List.mem_append.mp q with q | q
    · obtain ⟨r, c, v, e⟩ := h.src p q
      exact ⟨r, c, by unfold Vis at v ⊢; omega, e⟩
    · exact ⟨i, j, by unfold Vis; omega, List.mem_singleton.mp q⟩
theorem Grw.len {n : Nat} {f g : Cp} {i j : Nat} {ps : List (Nat × Nat)} (hf : okA f) (h : Grw n f g i j ps) : ps.length ≤ 26 := by
  have := MetOk.len (L := ps.map (·.1)) ⟨h.n1, fun x hx => by
    obtain ⟨p, hp, rfl⟩ := List.mem_map.mp hx
    obtain ⟨r, c, _, rfl⟩ := h.src p hp
    exact hf _ _⟩
  rw [List.length_map] at this
  exact this
theorem Grw.fn {n : Nat} {f g : Cp} {ps : List (Nat × Nat)} (h : Grw n f g n 0 ps) : ∃ u : Nat → Nat, DyOk n f (spS ps) u ∧ cpD n (fun r c => u (f r c)) = cpD n g := by
  refine ⟨fun x => open Classical in if e : ∃ y, (x, y) ∈ ps then e.choose else 0, ?_⟩
  have key : ∀ r c : Nat, r < n → c < n → (open Classical in if e : ∃ y, (f r c, y) ∈ ps then e.choose else 0) = g r c := fun r c hr hc => by
    have hm := h.has r c ⟨hc, .inl hr⟩
    have e : ∃ y, (f r c, y) ∈ ps := ⟨_, hm⟩
    rw [dif_pos e]
    exact nd_uniq h.n1 e.choose_spec hm
  refine ⟨fun r c hr hc => ?_, cp_ext.mpr fun r c h0 h1 h2 h3 => ?_⟩
  · show (sg1 (f r c), sg1 (open Classical in if e : ∃ y, (f r c, y) ∈ ps then e.choose else 0)) ∈ spS ps
    rw [key r c hr hc]
    exact List.mem_map.mpr ⟨_, h.has r c ⟨hc, .inl hr⟩, rfl⟩
  · obtain ⟨r, rfl⟩ := Int.eq_ofNat_of_zero_le h0
    obtain ⟨c, rfl⟩ := Int.eq_ofNat_of_zero_le h2
    exact key r c (by omega) (by omega)
end VN
namespace VN
open PySem VS PySem.W
def fstD : D → D
  | .tup [a, _] => a
  | _ => .non
def sndD : D → D
  | .tup [_, b] => b
  | _ => .non
end VN

/-! VTY: [k[0] for k in d], the first of each tuple key; `k not in d` with None -/
namespace VS
open PySem PySem.Spec L2 PyProof.Rows
def fK (k : List Key) : V := kV (k.headD (.inl 0))
section
variable {c : Cfg}
def dicR (env : Env) (i : Nat) : Option (List (D × D)) := match env[i]? with
  | some (.val (.dic true kvs)) => some kvs
  | some (.bor (.dic true kvs)) => some kvs
  | some (.own (.dic true kvs)) => some kvs
  | _ => none
def hdD : D → D
  | .tup (w :: _) => w
  | _ => .non
def eFst (i : Nat) : ET := fun env Q _ => ∃ kvs, dicR env i = some kvs ∧ (∀ p ∈ kvs, p.1 ≠ .tup []) ∧ Q (.fr (.lst (kvs.map fun p => hdD p.1))) env
end
end VS

/-! WT: the kind of a carpet -/
namespace VN
open PySem VS PySem.W
/-! dyed otherwise -/
def tenL : List Nat := [97, 98, 99, 100, 101, 113, 119, 120, 121, 122]
def okT (f : Cp) : Prop := ∀ r c, f r c ∈ tenL
def okS2 (s : Str) : Prop := okS s ∧ ∀ x ∈ s.cps.toList, x ∈ tenL
/-- the letter that stands so many behind among the ten -/
def dyT (a : Int) (x : Nat) : Nat := tenL.getD (((tenL.idxOf x : Nat) + (1 + a % 9)) % 10).toNat 0
/-! laid twice each way -/
def twF (n : Nat) (f : Cp) : Cp := fun r c => f (r % n) (c % n)
end VN
namespace VN
open PySem VS PySem.W
end VN
namespace VN
open PySem VS PySem.W
end VN
namespace VN
open PySem VS PySem.W
end VN

/-! WU: all least forms of a side and so many colours -/
namespace VN
open PySem VS PySem.W
/-! carpets by codes -/
def encN (c : Nat) : List Nat → Nat
  | [] => 0
  | d :: w => d + c * encN c w
def wC (n c code : Nat) : List Nat := (List.range (n * n)).map fun q => code / c ^ q % c
structure Vl (n c : Nat) (w : List Nat) : Prop where
  len : w.length = n * n
  lt : ∀ d ∈ w, d < c
theorem wC_vl {n c code : Nat} (hc : 0 < c) : Vl n c (wC n c code) := by
  refine ⟨by unfold wC; simp, fun d hd => ?_⟩
  obtain ⟨q, _, rfl⟩ := List.mem_map.mp hd
  exact Nat.mod_lt _ hc
theorem enc_lt {c : Nat} : ∀ {w : List Nat}, (∀ d ∈ w, d < c) → encN c w < c ^ w.length
  | [], _ => by show 0 < c ^ 0; rw [Nat.pow_zero]; exact Nat.one_pos
  | d :: w, h => by
    have h1 := enc_lt (w := w) fun x hx => h x (List.mem_cons_of_mem _ hx)
    have h2 := h d List.mem_cons_self
    rw [encN, List.length_cons, Nat.pow_succ, Nat.mul_comm (c ^ w.length)]
    have : c * (encN c w + 1) ≤ c * c ^ w.length := Nat.mul_le_mul_left _ h1
    rw [Nat.mul_add, Nat.mul_one] at this
    omega
theorem enc_at {c : Nat} : ∀ {w : List Nat} {q : Nat}, (∀ d ∈ w, d < c) → q < w.length → encN c w / c ^ q % c = w.getD q 0
  | [], _, _, h => absurd h (by simp)
  | d :: w, 0, h, _ => by
    rw [encN, Nat.pow_zero, Nat.div_one, Nat.add_mul_mod_self_left, Nat.mod_eq_of_lt (h d List.mem_cons_self)]
    rfl
  | d :: w, q + 1, h, hq => by
    have h2 := h d List.mem_cons_self
    rw [encN, Nat.pow_succ, Nat.mul_comm (c ^ q), ← Nat.div_div_eq_div_mul, Nat.add_mul_div_left _ _ (by omega), Nat.div_eq_of_lt h2, Nat.zero_add, enc_at (fun x hx => h x (List.mem_cons_of_mem _ hx)) (by simpa using hq)]
    rfl
theorem wC_all {n c : Nat} {w : List Nat} (h : Vl n c w) : ∃ code, code < c ^ (n * n) ∧ w = wC n c code := by
  refine ⟨encN c w, by rw [← h.len]; exact enc_lt h.lt, ?_⟩
  refine List.ext_getElem (by rw [h.len]; unfold wC; simp) fun q h1 h2 => ?_
  have hq : q < n * n := by rw [← h.len]; exact h1
  have e : (wC n c (encN c w))[q]? = some (w.getD q 0) := by
    unfold wC
    rw [List.getElem?_map, List.getElem?_range hq, Option.map_some, enc_at h.lt h1]
  have e2 := (List.getElem?_eq_some_iff.mp e).2
  rw [e2, List.getD_eq_getElem?_getD, List.getElem?_eq_getElem h1]
  rfl
/-! moved -/
theorem movW_vl {n c : Nat} (hn : 0 < n) (m : Mv) {w : List Nat} (h : Vl n c w) : Vl n c (movW n m w) := by
  have hn' : (0 : Int) < n := by omega
  refine ⟨movW_len n m w, fun d hd => ?_⟩
  obtain ⟨q, hq, rfl⟩ := List.mem_map.mp hd
  have k1 := lR_ok hn' (inv n m).w (inv n m).d (q / n : Nat) (q % n : Nat)
  have k2 := lC_ok hn' (inv n m).w (inv n m).r (q / n : Nat) (q % n : Nat)
  have hs : srcW n m q < w.length := by
    rw [h.len]
    unfold srcW
    generalize lR n (inv n m).w (inv n m).d (q / n : Nat) (q % n : Nat) = a at k1
    generalize lC n (inv n m).w (inv n m).r (q / n : Nat) (q % n : Nat) = b at k2
    obtain ⟨a, rfl⟩ := Int.eq_ofNat_of_zero_le k1.1
    obtain ⟨b, rfl⟩ := Int.eq_ofNat_of_zero_le k2.1
    rw [← Int.natCast_mul, ← Int.natCast_add, Int.toNat_natCast]
    have h1 : a + 1 ≤ n := by omega
    have h2 : n * (a + 1) ≤ n * n := Nat.mul_le_mul_left _ h1
    rw [Nat.mul_add, Nat.mul_one] at h2
    omega
  rw [List.getD_eq_getElem?_getD, List.getElem?_eq_getElem hs]
  exact h.lt _ (List.getElem_mem hs)
theorem movW_thn {n : Nat} (hn : 0 < n) {a b : Mv} (ha : a.ok n) (hb : b.ok n) {w : List Nat} : movW n (thn n a b) w = movW n b (movW n a w) := by
  refine dW_inj (movW_len ..) (movW_len ..) ?_
  rw [← dW_mov, ← dW_mov, mov_cp hn ha hb]
  refine mov_cg hn b ?_
  rw [dW_mov]
  rfl
theorem movW_stay {n : Nat} (hn : 0 < n) {w : List Nat} (h : w.length = n * n) : movW n stayM w = w := by
  refine dW_inj (movW_len ..) h ?_
  rw [← dW_mov, mov_stay_cp hn]
  rfl
theorem movW_back {n : Nat} (hn : 0 < n) {m : Mv} (hm : m.ok n) {w : List Nat} (h : w.length = n * n) : movW n (inv n m) (movW n m w) = w := by
  have hn' : (0 : Int) < n := by omega
  rw [← movW_thn hn hm (inv_ok hn' m), thn_inv hn' m, movW_stay hn h]
def LstW (n : Nat) (w : List Nat) : Prop := ∀ m : Mv, m.ok n → ltD (dW n (movW n m w)) (dW n w) = false
structure FormsOk (n c : Nat) (L : List (List Nat)) : Prop where
  srt : (L.map (dW n)).Pairwise (fun a b => leD a b = true)
  nd : L.Nodup
  mem : ∀ w, w ∈ L ↔ Vl n c w ∧ LstW n w
theorem okC_dig {n : Nat} {w : List Nat} (h : ∀ d ∈ w, d < 1000) : okC (dig n w) := fun r q => by
  show 97 + w.getD (n * r + q).toNat 0 < 1114112
  rw [List.getD_eq_getElem?_getD]
  cases e : w[(n * r + q).toNat]? with
  | none => show 97 + 0 < _; omega
  | some d =>
    have := h d (List.mem_of_getElem? e)
    show 97 + d < _
    omega
theorem ok_dW {n k c : Nat} {w : List Nat} (hc : c ≤ 1000) (h : Vl n c w) : D.okD (k + 2) (dW n w) = true := ok_cp (okC_dig fun d hd => Nat.lt_of_lt_of_le (h.lt d hd) hc)
theorem frm_uniq {n c : Nat} (hc : c ≤ 1000) {L M : List (List Nat)} (h : FormsOk n c L) (k : FormsOk n c M) : L = M := by
  have pm : L.Perm M := (List.perm_ext_iff_of_nodup h.nd k.nd).mpr fun w => (h.mem w).trans (k.mem w).symm
  have e : L.map (dW n) = M.map (dW n) := by
    refine List.Perm.eq_of_pairwise (le := fun a b => leD a b = true) (fun a b ha hb h1 h2 => ?_) h.srt k.srt (pm.map _)
    obtain ⟨x, hx, rfl⟩ := List.mem_map.mp ha
    obtain ⟨y, hy, rfl⟩ := List.mem_map.mp hb
    exact leD_anti (n := 50) (m := 50) (ok_dW hc ((h.mem x).mp hx).1) (ok_dW hc ((k.mem y).mp hy).1) alike_cp h1 h2
  have hl : ∀ w ∈ L, w.length = n * n := fun w hw => ((h.mem w).mp hw).1.len
  have hm : ∀ w ∈ M, w.length = n * n := fun w hw => ((k.mem w).mp hw).1.len
  clear pm h k
  induction L generalizing M with
  | nil => cases M with
    | nil => rfl
    | cons y M => cases e
  | cons x L ih =>
    cases M with
    | nil => cases e
    | cons y M =>
      rw [List.map_cons, List.map_cons, List.cons.injEq] at e
      rw [dW_inj (hl x List.mem_cons_self) (hm y List.mem_cons_self) e.1, ih e.2 (fun w hw => hl w (List.mem_cons_of_mem _ hw)) fun w hw => hm w (List.mem_cons_of_mem _ hw)]
theorem lst_eq {n c : Nat} (hn : 0 < n) (hc : c ≤ 1000) {x y : List Nat} (hx : Vl n c x) (lx : LstW n x) (ly : LstW n y) {m : Mv} (hm : m.ok n) (e : y = movW n m x) : y = x := by
  have hn' : (0 : Int) < n := by omega
  have hy : Vl n c y := by rw [e]; exact movW_vl hn m hx
  have e2 : movW n (inv n m) y = x := by rw [e]; exact movW_back hn hm hx.len
  have h1 := lx m hm
  have h2 := ly (inv n m) (inv_ok hn' m)
  rw [← e] at h1
  rw [e2] at h2
  exact dW_inj hy.len hx.len (leD_anti (n := 50) (m := 50) (ok_dW hc hy) (ok_dW hc hx) alike_cp (lt_le h2) (lt_le h1))
/-! the loop -/
structure FI (n c i : Nat) (S F : List (List Nat)) : Prop where
  s : ∀ x, x ∈ S ↔ ∃ j, j < i ∧ ∃ m : Mv, m.ok n ∧ x = movW n m (wC n c j)
  nds : S.Nodup
  f1 : ∀ x ∈ F, Vl n c x ∧ LstW n x ∧ x ∈ S
  f2 : ∀ j, j < i → ∃ x ∈ F, ∃ m : Mv, m.ok n ∧ x = movW n m (wC n c j)
  nd : F.Nodup
theorem FI.nil {n c : Nat} : FI n c 0 [] [] := ⟨fun x => ⟨(fun h => nomatch h), fun ⟨j, h, _⟩ => by omega⟩, List.nodup_nil, (fun x h => nomatch h), (fun j h => by omega), List.nodup_nil⟩
theorem mem_orbW {n : Nat} {w x : List Nat} : ∀ {ms : List Mv} {S : List (List Nat)}, x ∈ orbW n S w ms ↔ x ∈ S ∨ ∃ m ∈ ms, x = movW n m w
  | [], S => by simp [orbW]
  | m :: ms, S => by
    have e : orbW n S w (m :: ms) = orbW n (insW S (movW n m w)) w ms := rfl
    rw [e, mem_orbW]
    have hi : x ∈ insW S (movW n m w) ↔ x ∈ S ∨ x = movW n m w := by
      unfold insW
      split
      · rename_i h
        exact ⟨.inl, fun z => z.elim id fun e => e ▸ h⟩
      · simp
    rw [hi]
    simp only [List.mem_cons, exists_eq_or_imp, or_assoc]
theorem nd_orbW {n : Nat} {w : List Nat} : ∀ {ms : List Mv} {S : List (List Nat)}, S.Nodup → (orbW n S w ms).Nodup
  | [], S, h => h
  | m :: ms, S, h => by
    have e : orbW n S w (m :: ms) = orbW n (insW S (movW n m w)) w ms := rfl
    rw [e]
    refine nd_orbW ?_
    unfold insW
    split
    · exact h
    · rename_i hn
      exact List.nodup_append.mpr ⟨h, by simp, fun a ha b hb => by rw [List.mem_singleton.mp hb]; exact fun e => hn (e ▸ ha)⟩
theorem FI.old {n c i : Nat} (hn : 0 < n) (hc : 0 < c) {S F : List (List Nat)} (h : FI n c i S F) (hin : wC n c i ∈ S) : FI n c (i + 1) S F := by
  have hn' : (0 : Int) < n := by omega
  obtain ⟨j0, hj0, a, ha, e0⟩ := (h.s _).mp hin
  refine ⟨fun x => ⟨fun hx => ?_, fun ⟨j, hj, m, hm, e⟩ => ?_⟩, h.nds, h.f1, fun j hj => ?_, h.nd⟩
  · obtain ⟨j, hj, r⟩ := (h.s x).mp hx
    exact ⟨j, by omega, r⟩
  · by_cases z : j = i
    · subst z
      refine (h.s x).mpr ⟨j0, hj0, thn n a m, thn_ok hn' _ _, ?_⟩
      rw [e, e0, movW_thn hn ha hm]
    · exact (h.s x).mpr ⟨j, by omega, m, hm, e⟩
  · by_cases z : j = i
    · subst z
      obtain ⟨x, hx, b, hb, e⟩ := h.f2 j0 hj0
      refine ⟨x, hx, thn n (inv n a) b, thn_ok hn' _ _, ?_⟩
      rw [movW_thn hn (inv_ok hn' a) hb, e0, movW_back hn ha (wC_vl hc).len, e]
    · exact h.f2 j (by omega)
theorem FI.new {n c i : Nat} (hn : 0 < n) (hc : 0 < c) {S F : List (List Nat)} (h : FI n c i S F) (hno : wC n c i ∉ S) {a : Mv} (ha : a.ok n) (hl : ∀ m : Mv, m.ok n → ltD (dW n (movW n m (wC n c i))) (dW n (movW n a (wC n c i))) = false) :
    FI n c (i + 1) (orbW n S (wC n c i) (allM n)) (F ++ [movW n a (wC n c i)]) := by
  have hn' : (0 : Int) < n := by omega
  have hv := wC_vl (n := n) (code := i) hc
  have hu : movW n a (wC n c i) ∉ F := fun z => by
    obtain ⟨_, _, hs⟩ := h.f1 _ z
    obtain ⟨j, hj, b, hb, e⟩ := (h.s _).mp hs
    refine hno ((h.s _).mpr ⟨j, hj, thn n b (inv n a), thn_ok hn' _ _, ?_⟩)
    rw [movW_thn hn hb (inv_ok hn' a), ← e, movW_back hn ha hv.len]
  refine ⟨fun x => ?_, nd_orbW h.nds, fun x hx => ?_, fun j hj => ?_, List.nodup_append.mpr ⟨h.nd, by simp, fun x hx y hy => by rw [List.mem_singleton.mp hy]; exact fun e => hu (e ▸ hx)⟩⟩
  · rw [mem_orbW, h.s]
    constructor
    · rintro (⟨j, hj, r⟩ | ⟨m, hm, e⟩)
      · exact ⟨j, by omega, r⟩
      · exact ⟨i, by omega, m, mem_allM.mp hm, e⟩
    · rintro ⟨j, hj, m, hm, e⟩
      by_cases z : j = i
      · subst z; exact .inr ⟨m, mem_allM.mpr hm, e⟩
      · exact .inl ⟨j, by omega, m, hm, e⟩
  · rcases List.mem_append.mp hx with hx | hx
    · obtain ⟨h1, h2, h3⟩ := h.f1 x hx
      exact ⟨h1, h2, mem_orbW.mpr (.inl h3)⟩
    · rw [List.mem_singleton.mp hx]
      refine ⟨movW_vl hn a hv, fun m hm => ?_, mem_orbW.mpr (.inr ⟨a, mem_allM.mpr ha, rfl⟩)⟩
      rw [← movW_thn hn ha hm]
      exact hl _ (thn_ok hn' _ _)
  · by_cases z : j = i
    · subst z
      exact ⟨_, by simp, a, ha, rfl⟩
    · obtain ⟨x, hx, r⟩ := h.f2 j (by omega)
      exact ⟨x, List.mem_append.mpr (.inl hx), r⟩
theorem FI.fin {n c : Nat} (hn : 0 < n) (hc : 0 < c) (hc2 : c ≤ 1000) {S F : List (List Nat)} (h : FI n c (c ^ (n * n)) S F) {w : List Nat} : w ∈ F ↔ Vl n c w ∧ LstW n w := by
  refine ⟨fun hw => ⟨(h.f1 w hw).1, (h.f1 w hw).2.1⟩, fun ⟨h1, h2⟩ => ?_⟩
  obtain ⟨j, hj, e⟩ := wC_all h1
  obtain ⟨x, hx, m, hm, ex⟩ := h.f2 j hj
  rw [← e] at ex
  rw [← lst_eq hn hc2 h1 h2 (h.f1 x hx).2.1 hm ex]
  exact hx
theorem FI.len {n c i : Nat} (hn : 0 < n) (hc : 0 < c) {S F : List (List Nat)} (h : FI n c i S F) : S.length ≤ c ^ (n * n) ∧ F.length ≤ c ^ (n * n) := by
  have key : ∀ L : List (List Nat), L.Nodup → (∀ w ∈ L, Vl n c w) → L.length ≤ c ^ (n * n) := fun L nd hv => by
    have := nodup_le (L := (List.range (c ^ (n * n))).map (wC n c)) nd fun w hw => by
      obtain ⟨j, hj, e⟩ := wC_all (hv w hw)
      exact List.mem_map.mpr ⟨j, List.mem_range.mpr hj, e.symm⟩
    simpa using this
  refine ⟨key S h.nds fun w hw => ?_, key F h.nd fun w hw => (h.f1 w hw).1⟩
  obtain ⟨j, _, m, hm, rfl⟩ := (h.s w).mp hw
  exact movW_vl hn m (wC_vl hc)
/-- sorted -/
theorem frm_sort {n c : Nat} (hn : 0 < n) (hc : 0 < c) (hc2 : c ≤ 1000) {S F : List (List Nat)} (h : FI n c (c ^ (n * n)) S F) : ∃ L, (F.map (dW n)).mergeSort leD = L.map (dW n) ∧ FormsOk n c L := by
  have hp : ((F.map (dW n)).mergeSort leD).Perm (F.map (dW n)) := List.mergeSort_perm _ _
  have hex : ∃ L : List (List Nat), (F.map (dW n)).mergeSort leD = L.map (dW n) ∧ L.Perm F := by
    have key : ∀ (M : List D) (F : List (List Nat)), M.Perm (F.map (dW n)) → ∃ L : List (List Nat), M = L.map (dW n) ∧ L.Perm F := fun M => by
      induction M with
      | nil =>
        intro F h
        have := h.length_eq
        rw [List.length_map] at this
        have : F = [] := List.length_eq_zero_iff.mp this.symm
        exact ⟨[], rfl, by rw [this]⟩
      | cons d M ih =>
        intro F h
        obtain ⟨x, hx, e⟩ := List.mem_map.mp (h.mem_iff.mp List.mem_cons_self)
        obtain ⟨A, B, rfl⟩ := List.append_of_mem hx
        have h2 : (d :: M).Perm (d :: (A ++ B).map (dW n)) := by
          refine h.trans ?_
          rw [List.map_append, List.map_cons, e, List.map_append]
          exact List.perm_middle
        obtain ⟨L, eL, pL⟩ := ih (A ++ B) (List.Perm.cons_inv h2)
        refine ⟨x :: L, by rw [List.map_cons, e, eL], ?_⟩
        exact (pL.cons x).trans List.perm_middle.symm
    exact key _ F hp
  obtain ⟨L, eL, pL⟩ := hex
  refine ⟨L, eL, by rw [← eL]; exact leD_pairwise _, pL.nodup_iff.mpr h.nd, fun w => (pL.mem_iff).trans (h.fin hn hc hc2)⟩
theorem min_cps {n : Nat} (hn : 0 < n) {f : Cp} (hf : okC f) {ms : List Mv} (hs : ms ≠ []) {Q : RV → Prop} (hms : ∀ m ∈ ms, m.ok n) (q : ∀ a ∈ ms, (∀ m ∈ ms, ltD (cpD n (movF n m f)) (cpD n (movF n a f)) = false) → Q (.val (cpD n (movF n a f)))) : opMinD [.lst (ms.map fun m => cpD n (movF n m f))] Q := by
  cases e : ms.map fun m => cpD n (movF n m f) with
  | nil => exact absurd (List.map_eq_nil_iff.mp e) hs
  | cons d ds =>
    have hall : ∀ x ∈ d :: ds, ∃ m ∈ ms, x = cpD n (movF n m f) := fun x hx => by
      rw [← e] at hx
      obtain ⟨m, hm, rfl⟩ := List.mem_map.mp hx
      exact ⟨m, hm, rfl⟩
    refine ⟨⟨okL_all fun x hx => ?_, fun x hx y hy => ?_, fun x hx => ?_⟩, ?_⟩
    · obtain ⟨m, _, rfl⟩ := hall x hx
      exact ok_cp (okC_mov hf)
    · obtain ⟨m, _, rfl⟩ := hall x hx
      obtain ⟨m', _, rfl⟩ := hall y hy
      exact alike_cp
    · obtain ⟨m, _, rfl⟩ := hall x hx
      show D.toPy (.tup _) ≠ _
      simp [D.toPy]
    · obtain ⟨h1, h2⟩ := minL_spec d ds
      obtain ⟨a, ha, ea⟩ := hall _ h1
      rw [ea]
      refine q a ha fun m hm => ?_
      have hy : cpD n (movF n m f) ∈ d :: ds := by
        rw [← e]
        exact List.mem_map.mpr ⟨m, hm, rfl⟩
      have h3 := h2 _ hy
      rw [ea] at h3
      have h3 : (!dataLt (cpD n (movF n m f)).toPy (cpD n (movF n a f)).toPy) = true := h3
      simpa [ltD] using h3
end VN
namespace VN
open PySem VS PySem.W
theorem forms_ok {n c : Nat} (hc : c ≤ 1000) {L : List (List Nat)} (h : FormsOk n c L) : D.okL 58 (L.map (dW n)) = true := okL_all fun x hx => by
  obtain ⟨y, hy, rfl⟩ := List.mem_map.mp hx
  exact ok_dW hc ((h.mem y).mp hy).1
theorem forms_sort {n c : Nat} {S F : List (List Nat)} (h : FI n c (c ^ (n * n)) S F) (hn : 0 < n) (hc : 0 < c) (hc2 : c ≤ 1000) {Q : RV → Prop} (q : ∀ L, FormsOk n c L → Q (.fr (.lst (L.map (dW n))))) : opSorted [.lst (F.map (dW n))] Q := by
  obtain ⟨L, e, hL⟩ := frm_sort hn hc hc2 h
  refine ⟨_, rfl, ⟨okL_all fun x hx => ?_, fun x hx y hy => ?_, .inl fun x hx => ?_⟩, by rw [e]; exact q L hL⟩
  · obtain ⟨y, hy, rfl⟩ := List.mem_map.mp hx
    exact ok_dW hc2 (h.f1 y hy).1
  · obtain ⟨a, _, rfl⟩ := List.mem_map.mp hx
    obtain ⟨b, _, rfl⟩ := List.mem_map.mp hy
    exact alike_cp
  · obtain ⟨d, hd, rfl⟩ := List.mem_map.mp hx
    obtain ⟨y, hy, rfl⟩ := List.mem_map.mp hd
    show ∃ x r, D.toPy (.tup ((List.range n).map fun r => D.str (rowS n (dig n y (r : Nat))))) = _
    cases e : (List.range n).map fun r => D.str (rowS n (dig n y (r : Nat))) with
    | nil =>
      have := congrArg List.length e
      rw [List.length_map, List.length_range] at this
      exact absurd this (by show n ≠ 0; omega)
    | cons a r => exact ⟨a.toPy, D.toPyL r, rfl⟩
/-- a letter that is none of the first so many, the least one -/
def BadL (n c : Nat) (f : Cp) (x : Nat) : Prop := (∃ r q : Nat, r < n ∧ q < n ∧ x = f r q) ∧ 97 + c ≤ x ∧ ∀ r q : Nat, r < n → q < n → 97 + c ≤ f r q → x ≤ f r q
def GoodL (n c : Nat) (f : Cp) : Prop := ∀ r q : Nat, r < n → q < n → f r q < 97 + c
theorem okA_dig {n c : Nat} (hc : c ≤ 26) {w : List Nat} (hc0 : 0 < c) (h : Vl n c w) : okA (dig n w) := fun r q => by
  show 97 ≤ 97 + w.getD (n * r + q).toNat 0 ∧ 97 + w.getD (n * r + q).toNat 0 < 123
  rw [List.getD_eq_getElem?_getD]
  cases e : w[(n * r + q).toNat]? with
  | none => show 97 ≤ 97 + 0 ∧ 97 + 0 < 123; omega
  | some d =>
    have := h.lt d (List.mem_of_getElem? e)
    show 97 ≤ 97 + d ∧ 97 + d < 123
    omega
/-- the place of a carpet's least form -/
theorem form_at {n c : Nat} (hn : 0 < n) {L : List (List Nat)} (h : FormsOk n c L) {w : List Nat} (hw : Vl n c w) {m : Mv} (hm : Least n (dig n w) m) : ∃ j : Nat, j < L.length ∧ (L.map (dW n))[j]? = some (cpD n (movF n m (dig n w))) := by
  have hn' : (0 : Int) < n := by omega
  have hin : movW n m w ∈ L := by
    refine (h.mem _).mpr ⟨movW_vl hn m hw, fun m' hm' => ?_⟩
    rw [← movW_thn hn hm.1 hm', ← dW_mov, ← dW_mov]
    exact hm.2 _ (thn_ok hn' _ _)
  obtain ⟨j, hj⟩ := List.mem_iff_getElem?.mp hin
  exact ⟨j, (List.getElem?_eq_some_iff.mp hj).1, by rw [List.getElem?_map, hj, dW_mov]; rfl⟩
theorem least_ex {n : Nat} (hn : 0 < n) {f : Cp} (hf : okC f) : ∃ m, Least n f m := by
  have := lf_min hn hf (Q := fun _ => ∃ m, Least n f m) fun m hm => ⟨m, hm⟩
  cases e : (allM n).map fun m => prD n (movF n m f) m with
  | nil =>
    have hs : stayM ∈ allM n := mem_allM.mpr (stayM_ok (by omega))
    rw [List.map_eq_nil_iff.mp e] at hs
    cases hs
  | cons d ds =>
    rw [e] at this
    exact this.2
end VN
namespace VN
open PySem VS PySem.W
theorem min_ws {n c : Nat} {w : List Nat} (hw : Vl n c w) (hn : 0 < n) (hc : c ≤ 1000) {Q : RV → Prop} (q : ∀ a : Mv, a.ok n → (∀ m : Mv, m.ok n → ltD (dW n (movW n m w)) (dW n (movW n a w)) = false) → Q (.val (dW n (movW n a w)))) : opMinD [.lst ((allM n).map fun m => dW n (movW n m w))] Q := by
  have e : (allM n).map (fun m => dW n (movW n m w)) = (allM n).map fun m => cpD n (movF n m (dig n w)) := List.map_congr_left fun m _ => (dW_mov m w).symm
  rw [e]
  have hs : stayM ∈ allM n := mem_allM.mpr (stayM_ok (by omega))
  refine min_cps hn (okC_dig fun d hd => Nat.lt_of_lt_of_le (hw.lt d hd) hc) (fun z => by rw [z] at hs; cases hs) (fun m hm => mem_allM.mp hm) fun a ha hl => ?_
  rw [dW_mov]
  refine q a (mem_allM.mp ha) fun m hm => ?_
  rw [← dW_mov, ← dW_mov]
  exact hl m (mem_allM.mpr hm)
theorem orbW_len {n : Nat} {w : List Nat} : ∀ {ms : List Mv} {S : List (List Nat)}, (orbW n S w ms).length ≤ S.length + ms.length
  | [], S => Nat.le_refl _
  | m :: ms, S => by
    have e : orbW n S w (m :: ms) = orbW n (insW S (movW n m w)) w ms := rfl
    rw [e, List.length_cons]
    have h1 := orbW_len (n := n) (w := w) (ms := ms) (S := insW S (movW n m w))
    have h2 := insW_len S (movW n m w)
    omega
def mvWF (n : Nat) (w : List Nat) : D → D := fun d => dW n (movW n (unM d) w)
theorem mvWF_map {n : Nat} {w : List Nat} {L : List Mv} : (L.map dM).map (mvWF n w) = L.map fun m => dW n (movW n m w) := by
  rw [List.map_map]
  refine List.map_congr_left fun m _ => ?_
  show dW n (movW n (unM (dM m)) w) = _
  rw [unM_dM]
theorem wC_row {n c code i j : Nat} (hi : i < n) (hj : j < n) : dig n (wC n c code) (i : Nat) (j : Nat) = 97 + code / c ^ (n * i + j) % c := by
  have hlt : n * i + j < n * n := by
    have : n * (i + 1) ≤ n * n := Nat.mul_le_mul_left _ hi
    rw [Nat.mul_add, Nat.mul_one] at this
    omega
  show 97 + (wC n c code).getD ((n : Int) * (i : Int) + (j : Int)).toNat 0 = _
  rw [← Int.natCast_mul, ← Int.natCast_add, Int.toNat_natCast]
  unfold wC
  rw [List.getD_eq_getElem?_getD, List.getElem?_map, List.getElem?_range hlt]
  rfl
end VN
namespace VN
open PySem VS PySem.W
theorem in_kC {neg : Bool} {n : Nat} {v : List Nat → D} {w : List Nat} {F : List (List Nat)} {Q : RV → Prop} (hw : w.length = n * n) (q : Q (.val (.bl (neg ^^ decide (w ∈ F))))) : opIn neg (cpD n (dig n w)) (.dic true (kvA (kW n) v F)) Q := in_kW hw q
end VN
namespace VN
open PySem VS PySem.W
def digF (n : Nat) (w : List Nat) : D → D
  | .int r => .str (rowS n (dig n w r))
  | _ => .non
theorem digF_at {n : Nat} {w : List Nat} {r : Nat} : digF n w (.int (0 + (r : Int))) = .str (rowS n (dig n w (r : Nat))) := by
  show D.str (rowS n (dig n w (0 + (r : Int)))) = _
  rw [Int.zero_add]
theorem digF_map {n : Nat} {w : List Nat} : (rgD 0 n).map (digF n w) = (List.range n).map fun r => D.str (rowS n (dig n w (r : Nat))) := by
  unfold rgD
  rw [List.map_map]
  exact List.map_congr_left fun r _ => digF_at
end VN
namespace VN
open PySem VS PySem.W
end VN
namespace VN
open PySem VS PySem.W
def badQ2 (c : Nat) : D → Bool
  | .str s => !decide (s.cps.toList.headD 0 < 97 + c)
  | _ => false
/-! the last knot otherwise -/
/-! one colour -/
end VN
namespace VN
open PySem VS PySem.W
def oneF (n : Nat) : D → D := fun _ => .str (rowS n fun _ => 97)
theorem ne_lok {xs : List D} {Q : RV → Prop} (h : D.okL 59 xs = true) (q : Q (.val (.bl false))) : opNe (.lst xs) (.lst xs) Q := ne_same (ok_lst h) (fun b e => by cases e) (fun b e => by cases e) q
end VN


namespace VN
open PySem VS PySem.W
theorem BadL.ok {n c : Nat} {f : Cp} {x : Nat} (hf : okA f) (h : BadL n c f x) : x < 1114112 := by
  obtain ⟨⟨r, q, hr, hq, ex⟩, _⟩ := h
  have := hf r q
  omega
end VN

namespace VN
open PySem VS PySem.W
end VN

namespace VN
open PySem VS PySem.W
end VN

namespace VN
open PySem VS PySem.W
end VN

/-! VTZ: defs that call themselves -/
namespace VS
open PySem PySem.Spec L2
variable {c : Cfg}
end VS
namespace VS
open PySem PySem.Spec L2
theorem FnC.up {c : Cfg} {k k' : Nat} {x : Str} {ms : List Bool} {F : FSp} (h : FnC (c.lv k) x ms F) (l : k ≤ k') : FnC (c.lv k') x ms F := by
  obtain ⟨f, fd, ps, o, r⟩ := h.ex
  exact ⟨⟨f, fd, ps, o.mono l, r⟩⟩
end VS

/-! VUA: text.rfind(text), text.find(text, place) -/
namespace VS
open PySem PySem.Spec L2
variable {c : Cfg}
def opRfind : D → List D → (RV → Prop) → Prop
  | .str a, [.str b], Q => Q (.val (.int (Txt.rfind a b)))
  | _, _, _ => False
def rRfind : V → List V → Hp → VK → Prop := fun x xs H Q => ∃ a b, x = .str a ∧ xs = [.str b] ∧ Q (.int (Txt.rfind a b)) H
def opFind3 : D → List D → (RV → Prop) → Prop
  | .str a, [.str b, .int i], Q => Q (.val (.int (Txt.find3 a b i)))
  | _, _, _ => False
def rFind3 : V → List V → Hp → VK → Prop := fun x xs H Q => ∃ (a b : Str) (i : Int), x = .str a ∧ xs = [.str b, .int i] ∧ Q (.int (Txt.find3 a b i)) H
end VS

/-! VUB: dicts whose keys are tuples of any depth -/
namespace VS
open PySem PySem.Spec L2
variable {c : Cfg}
mutual
theorem Rep.nest {X : Cx} {pins : List (Addr × Obj)} {σ : L2.St} {w : World} {G H : Hp} {s : Shared} (I : Inv X pins σ H s) (sg : Same G H) : ∀ {v : V} {d : D} {k : NestedKey} {u : Value}, Rep X.K w G v d → nkD d = some k → RelV v u → NestedIs s.heap k u
  | _, _, k, u, .non, e, r => by cases e
  | _, _, k, u, .bl b, e, r => by cases e
  | _, _, k, u, .int i, e, r => by cases e; obtain ⟨t, rfl⟩ := r; exact .int _ _
  | _, _, k, u, .str x, e, r => by cases e; obtain ⟨t, rfl⟩ := r; exact .text _ _
  | _, _, k, u, .ty n, e, r => by cases e
  | _, _, k, u, .tup (ds := ds) h q, e, r => by
    have e : (nkL ds).map NestedKey.tup = some k := e
    obtain ⟨ks, e1, rfl⟩ := Option.map_eq_some_iff.mp e
    obtain ⟨its, rv, ⟨o, ho, hc, n, hd⟩, _⟩ := I.tuple (SqT.of (sg _ _ h))
    cases (show u = Value.ref _ from r)
    exact .tup ho hc hd (by simpa using RepL.nest I sg q e1 rv)
  | _, _, k, u, .ktup (ds := ds) h q, e, r => by
    have e : (nkL ds).map NestedKey.tup = some k := e
    obtain ⟨ks, e1, rfl⟩ := Option.map_eq_some_iff.mp e
    obtain ⟨its, rv, ⟨o, ho, hc, n, hd⟩, _⟩ := I.tuple (.inr h)
    cases (show u = Value.ref _ from r)
    exact .tup ho hc hd (by simpa using RepL.nest I sg q e1 rv)
  | _, _, k, u, .lst _ _, e, r => by cases e
  | _, _, k, u, .dicK _ _, e, r => by cases e
  | _, _, k, u, .dicT _ _, e, r => by cases e
  | _, _, k, u, .dicC _, e, r => by cases e
  | _, _, k, u, .exc _ _ _ _, e, r => by cases e
  | _, _, k, u, .dix _ _, e, r => by cases e
  | _, _, k, u, .ins _ _ _ _, e, r => by cases e
theorem RepL.nest {X : Cx} {pins : List (Addr × Obj)} {σ : L2.St} {w : World} {G H : Hp} {s : Shared} (I : Inv X pins σ H s) (sg : Same G H) : ∀ {vs : List V} {ds : List D} {ks : List NestedKey} {us : List Value}, RepL X.K w G vs ds → nkL ds = some ks → Vals vs us → NestedAll s.heap ks us
  | _, _, ks, us, .nil, e, r => by cases e; cases r; exact .nil
  | _, _, ks, us, .cons (d := d) (ds := ds) h q, e, r => by
    unfold nkL at e
    cases hd : nkD d with
    | none => rw [hd] at e; cases e
    | some k =>
      rw [hd] at e
      obtain ⟨ks2, e1, rfl⟩ := Option.map_eq_some_iff.mp e
      cases r with
      | cons r1 r2 => exact .cons (Rep.nest I sg h hd r1) (RepL.nest I sg q e1 r2)
end
/-! ### lookups -/
def kgetN (kvs : List (NestedKey × Addr × V)) (k : NestedKey) : Option V := (kvs.find? fun p => decide (p.1 = k)).map (·.2.2)
def kputN (kvs : List (NestedKey × Addr × V)) (k : NestedKey) (ka : Addr) (v : V) : List (NestedKey × Addr × V) := if (kgetN kvs k).isSome = true then kvs.map (fun p => if p.1 = k then (p.1, p.2.1, v) else p) else kvs ++ [(k, ka, v)]
abbrev PN : List (NestedKey × Addr × V) → List (NestedKey × Addr × Value) → Prop := Paired fun p q => p.1 = q.1 ∧ p.2.1 = q.2.1 ∧ RelV p.2.2 q.2.2
theorem PN.val : ∀ {l : List (NestedKey × Addr × V)} {m : List (NestedKey × Addr × Value)}, PN l m → ∀ k, RelO (kgetN l k) ((atKey m k).map (·.2))
  | _, _, .nil, k => trivial
  | _, _, .cons (a := a) (b := b) h t, k => by
    unfold kgetN atKey
    rw [List.find?_cons, List.find?_cons, h.1]
    by_cases e : b.1 = k
    · rw [decide_eq_true e]
      exact h.2.2
    · rw [decide_eq_false e]
      exact PN.val t k
theorem paired_snoc {α β : Type} {R : α → β → Prop} : ∀ {l : List α} {m : List β} {a : α} {b : β}, Paired R l m → R a b → Paired R (l ++ [a]) (m ++ [b])
  | _, _, _, _, .nil, h => .cons h .nil
  | _, _, _, _, .cons q t, h => .cons q (paired_snoc t h)
theorem PN.put {l : List (NestedKey × Addr × V)} {m : List (NestedKey × Addr × Value)} (h : PN l m) (k : NestedKey) (ka : Addr) {v : V} {u : Value} (r : RelV v u) : PN (kputN l k ka v) (storedH m k ka u) := by
  have hs : (kgetN l k).isSome = (atKey m k).isSome := by
    have := (h.val k).isSome_eq
    rw [Option.isSome_map] at this
    exact this
  unfold kputN storedH
  rw [hs]
  split
  · have go : ∀ {l : List (NestedKey × Addr × V)} {m : List (NestedKey × Addr × Value)}, PN l m → PN (l.map (fun p => if p.1 = k then (p.1, p.2.1, v) else p)) (m.map (putAt k u)) := by
      intro l m q
      induction q with
      | nil => exact .nil
      | cons q t ih =>
        rename_i a b _ _
        refine .cons ?_ ih
        unfold putAt
        by_cases e : b.1 = k
        · rw [if_pos e]
          show (if a.1 = k then (a.1, a.2.1, v) else a).1 = _ ∧ (if a.1 = k then (a.1, a.2.1, v) else a).2.1 = _ ∧ RelV (if a.1 = k then (a.1, a.2.1, v) else a).2.2 _
          rw [if_pos (q.1.trans e)]
          exact ⟨q.1, q.2.1, r⟩
        · rw [if_neg e]
          show (if a.1 = k then (a.1, a.2.1, v) else a).1 = _ ∧ (if a.1 = k then (a.1, a.2.1, v) else a).2.1 = _ ∧ RelV (if a.1 = k then (a.1, a.2.1, v) else a).2.2 _
          rw [if_neg (fun z => e (q.1.symm.trans z))]
          exact q
    exact go h
  · exact paired_snoc h ⟨rfl, rfl, r⟩
theorem PN.len {l : List (NestedKey × Addr × V)} {m : List (NestedKey × Addr × Value)} (h : PN l m) : l.length = m.length := Paired.length h
def dgetX (ds : List (D × D)) (k : NestedKey) : Option D := (ds.find? fun p => decide (nkD p.1 = some k)).map (·.2)
def dputX (ds : List (D × D)) (kd d : D) : List (D × D) := if (ds.any fun p => decide (nkD p.1 = nkD kd)) = true then ds.map (fun p => if nkD p.1 = nkD kd then (p.1, d) else p) else ds ++ [(kd, d)]
theorem RepN.val {K : PySem.W.Frag} {w : World} {G : Hp} : ∀ {l : List (NestedKey × Addr × V)} {ds : List (D × D)}, RepN K w G l ds → ∀ k, RelD K w G (kgetN l k) (dgetX ds k)
  | _, _, .nil, k => trivial
  | _, _, .cons (k := j) (kd := kd) e1 e2 h1 h2 t, k => by
    unfold kgetN dgetX
    rw [List.find?_cons, List.find?_cons]
    by_cases e : j = k
    · rw [show decide ((j, _, _).1 = k) = true from decide_eq_true e, show decide (nkD (kd, _).1 = some k) = true from decide_eq_true (by rw [show nkD (kd, _).1 = nkD kd from rfl, e1, e])]
      exact h2
    · rw [show decide ((j, _, _).1 = k) = false from decide_eq_false e, show decide (nkD (kd, _).1 = some k) = false from decide_eq_false (by rw [show nkD (kd, _).1 = nkD kd from rfl, e1]; exact fun z => e (Option.some.inj z))]
      exact RepN.val t k
theorem RepN.any {K : PySem.W.Frag} {w : World} {G : Hp} : ∀ {l : List (NestedKey × Addr × V)} {ds : List (D × D)}, RepN K w G l ds → ∀ k, (kgetN l k).isSome = ds.any fun p => decide (nkD p.1 = some k)
  | _, _, .nil, k => rfl
  | _, _, .cons (k := j) (kd := kd) e1 e2 h1 h2 t, k => by
    unfold kgetN
    rw [List.find?_cons, List.any_cons]
    by_cases e : j = k
    · rw [show decide ((j, _, _).1 = k) = true from decide_eq_true e, show decide (nkD (kd, _).1 = some k) = true from decide_eq_true (by rw [show nkD (kd, _).1 = nkD kd from rfl, e1, e])]
      rfl
    · rw [show decide ((j, _, _).1 = k) = false from decide_eq_false e, show decide (nkD (kd, _).1 = some k) = false from decide_eq_false (by rw [show nkD (kd, _).1 = nkD kd from rfl, e1]; exact fun z => e (Option.some.inj z))]
      exact RepN.any t k
theorem RepN.put {K : PySem.W.Frag} {w : World} {G : Hp} {l : List (NestedKey × Addr × V)} {ds : List (D × D)} (h : RepN K w G l ds) {k : NestedKey} {ka : Addr} {kd : D} {v : V} {d : D} (e : nkD kd = some k) (hd : k.depth ≤ 8) (rk : Rep K w G (.ref ka) kd) (r : Rep K w G v d) : RepN K w G (kputN l k ka v) (dputX ds kd d) := by
  unfold kputN dputX
  rw [h.any k, e]
  split
  · clear hd rk
    have go : ∀ {l : List (NestedKey × Addr × V)} {ds : List (D × D)}, RepN K w G l ds → RepN K w G (l.map (fun p => if p.1 = k then (p.1, p.2.1, v) else p)) (ds.map (fun p => if nkD p.1 = some k then (p.1, d) else p)) := by
      intro l ds q
      induction l generalizing ds with
      | nil => cases q; exact .nil
      | cons p l ih =>
        cases q with
        | @cons j ja jv jd jd2 _ _ e1 e2 h1 h2 t =>
          rw [List.map_cons, List.map_cons]
          by_cases e3 : j = k
          · rw [if_pos e3, if_pos (show nkD (jd, jd2).1 = some k by rw [← e3]; exact e1)]
            exact .cons e1 e2 h1 r (ih t)
          · rw [if_neg e3, if_neg (show ¬ nkD (jd, jd2).1 = some k by rw [show nkD (jd, jd2).1 = nkD jd from rfl, e1]; exact fun z => e3 (Option.some.inj z))]
            exact .cons e1 e2 h1 h2 (ih t)
    exact go h
  · have go : ∀ {l : List (NestedKey × Addr × V)} {ds : List (D × D)}, RepN K w G l ds → RepN K w G (l ++ [(k, ka, v)]) (ds ++ [(kd, d)]) := by
      intro l ds q
      induction l generalizing ds with
      | nil => cases q; exact .cons e hd rk r .nil
      | cons p l ih =>
        cases q with
        | cons e1 e2 h1 h2 t => exact .cons e1 e2 h1 h2 (ih t)
    exact go h
theorem RepN.length {K : PySem.W.Frag} {w : World} {G : Hp} {l : List (NestedKey × Addr × V)} {ds : List (D × D)} (h : RepN K w G l ds) : l.length = ds.length := by
  induction l generalizing ds with
  | nil => cases h; rfl
  | cons p l ih => cases h with | cons e1 e2 h1 h2 t => rw [List.length_cons, List.length_cons, ih t]
/-- all keys are keys -/
def KsN (K : PySem.W.Frag) (w : World) (G : Hp) (kvs : List (NestedKey × Addr × V)) : Prop := ∀ p ∈ kvs, ∃ kd, nkD kd = some p.1 ∧ p.1.depth ≤ 8 ∧ Rep K w G (.ref p.2.1) kd
theorem RepN.ks {K : PySem.W.Frag} {w : World} {G : Hp} {l : List (NestedKey × Addr × V)} {ds : List (D × D)} (h : RepN K w G l ds) : KsN K w G l := by
  induction l generalizing ds with
  | nil => intro p hp; cases hp
  | cons q l ih =>
    cases h with
    | cons e1 e2 h1 h2 t =>
      intro p hp
      rcases List.mem_cons.mp hp with rfl | hp
      · exact ⟨_, e1, e2, h1⟩
      · exact ih t p hp
theorem KsN.keys {X : Cx} {pins : List (Addr × Obj)} {σ : L2.St} {w : World} {G H : Hp} {s : Shared} (I : Inv X pins σ H s) (sg : Same G H) {l : List (NestedKey × Addr × V)} {m : List (NestedKey × Addr × Value)} (h : KsN X.K w G l) (p : PN l m) : ∀ x ∈ m, (nestedKind X.prog X.w).is s.heap x.1 x.2.1 := by
  induction p with
  | nil => intro x hx; cases hx
  | cons q t ih =>
    intro x hx
    rcases List.mem_cons.mp hx with rfl | hx
    · obtain ⟨kd, e1, e2, h1⟩ := h _ (List.mem_cons_self ..)
      rw [← q.1, ← q.2.1]
      exact ⟨Rep.nest I sg h1 e1 rfl, e2⟩
    · exact ih (fun p hp => h p (List.mem_cons_of_mem _ hp)) x hx
/-! ### reading -/
def isTk : D → Bool
  | .tup _ => true
  | .ktup _ => true
  | _ => false
/-- x[y], y in x: the dict, its data, the key -/
def DGX (K : PySem.W.Frag) (w : World) (H : Hp) (x y : V) (o : Option V) : Prop := ∃ (a a' kb : Addr) (kvs : List (NestedKey × Addr × V)) (G : Hp) (kd : D) (k : NestedKey), x = .ref a ∧ Rd H a (dxO w a' kvs) ∧ Same G H ∧ KsN K w G kvs ∧ y = .ref kb ∧ Rep K w G y kd ∧ nkD kd = some k ∧ k.depth ≤ 8 ∧ o = kgetN kvs k
def rIxX (K : PySem.W.Frag) (w : World) : R2 := fun x y H Q => ∃ v, DGX K w H x y (some v) ∧ Q v H
def opIdxX : D → D → (RV → Prop) → Prop
  | .dix kvs, k, Q => isTk k = true ∧ ∃ n, nkD k = some n ∧ n.depth ≤ 8 ∧ ∃ d, dgetX kvs n = some d ∧ Q (.val d)
  | _, _, _ => False
def rInX (K : PySem.W.Frag) (w : World) (neg : Bool) : R2 := fun x y H Q => ∃ o, DGX K w H y x o ∧ Q (.bl (neg ^^ o.isSome)) H
def opInX (neg : Bool) : D → D → (RV → Prop) → Prop
  | k, .dix kvs, Q => isTk k = true ∧ ∃ n, nkD k = some n ∧ n.depth ≤ 8 ∧ Q (.val (.bl (neg ^^ (dgetX kvs n).isSome)))
  | _, _, _ => False
section
variable {pos : Pos} {a b : Expr} {ta tb : ET}
end
/-! ### writing -/
def rSetX (K : PySem.W.Frag) (w : World) : TSet := fun o i v H Q => ∃ (a a' kb : Addr) (kvs : List (NestedKey × Addr × V)) (G : Hp) (kd : D) (k : NestedKey), o = .ref a ∧ H a = some (dxO w a' kvs) ∧ Same G H ∧ KsN K w G kvs ∧ i = .ref kb ∧ Rep K w G (.ref kb) kd ∧ nkD kd = some k ∧ k.depth ≤ 8 ∧ kvs.length < sizeLine ∧
  Q (upd H a (dxO w a (kputN kvs k kb v)))
/-- x[k] = e -/
def sPutX (i : Nat) (tk tv : ET) : STt := fun D env => tv env (fun rv e1 => ∃ d0, e1[i]? = some (.own d0) ∧ tk e1 (fun rk e2 => ∃ dv e3 dk, fz e2 rv.hold = some (dv, e3) ∧ rd e3 rk = some dk ∧ ∃ kvs, e3[i]? = some (.own (.dix kvs)) ∧ isTk dk = true ∧ ∃ n, nkD dk = some n ∧ n.depth ≤ 8 ∧ kvs.length < sizeLine ∧
  ∃ e4, e3.set i (.own (.dix (dputX kvs dk dv))) = e4 ∧ D.nx e4) D.xq) D.xq
/-! ### displays -/
def tDNewX (w : World) : TE := fun _ H Q => ∀ p, H p = none → Q (.ref p) (upd H p (dxO w p []))
def eDix0 : ET := fun env Q _ => Q (.fr (.dix [])) env
theorem Fin.dix {G H : Hp} {P : RV → Prop} {K : VK} {ds : List (D × D)} (f : Fin c G H P K) (s : Same G H) (p : P (.fr (.dix ds))) {vs : List (NestedKey × Addr × V)} (r : RepN c.K c.w G vs ds) : ∀ a a', H a = none → K (.ref a) (upd H a (dxO c.w a' vs)) := fun a a' ha =>
  f _ (.ref a) G _ p ⟨same_new ha, Same.refl _, s.trans (same_new ha), fun b hb => .inl hb⟩ ⟨a, _, rfl, ha, s.free ha, upd_same, a', _, rfl, r⟩
def eDix1 (tk tv : ET) : ET := fun env Q _ => tk env (fun rk e1 => tv e1 (fun rv e2 => ∃ dv e3 dk, fz e2 rv.hold = some (dv, e3) ∧ rd e3 rk.hold.hold = some dk ∧ isTk dk = true ∧ ∃ n, nkD dk = some n ∧ n.depth ≤ 8 ∧ Q (.fr (.dix [(dk, dv)])) e3) noX) noX
/-! ### a path through such a dict -/
def keyX? (ks : NestedKey) : D → Option D
  | .dix kvs => dgetX kvs ks
  | _ => none
def pKx (n : NestedKey) (f : Env → D → Option D) : Env → D → Option D := fun env d => (f env d).bind (keyX? n)
/-! ### a module's tuples within data: compared, sorted -/
mutual
def unD : D → D
  | .tup xs => .tup (unL xs)
  | .ktup xs => .tup (unL xs)
  | .lst xs => .lst (unL xs)
  | d => d
  termination_by structural d => d
def unL : List D → List D
  | [] => []
  | d :: ds => unD d :: unL ds
  termination_by structural d => d
end
def opNeU : D → D → (RV → Prop) → Prop
  | a, b, Q => D.okD 60 (unD a) = true ∧ D.okD 60 (unD b) = true ∧ Q (.val (.bl (!decide (unD a = unD b))))
def opEqU : D → D → (RV → Prop) → Prop
  | a, b, Q => D.okD 60 (unD a) = true ∧ D.okD 60 (unD b) = true ∧ Q (.val (.bl (decide (unD a = unD b))))
def opSortU : List D → (RV → Prop) → Prop
  | [d], Q => ∃ ds, colD d = some ds ∧ sortOk (ds.map unD) ∧ ∀ ds', ds'.map unD = (ds.map unD).mergeSort leD → (∀ e ∈ ds', e ∈ ds) → Q (.fr (.lst ds'))
  | _, _ => False
section
variable {pos : Pos} {a b : Expr} {ta tb : ET}
end
end VS

/-! VUC: enumerate of a tuple, a module's own one too -/
namespace VS
open PySem PySem.Spec L2 PyProof.Rows
open Sem (wp)
section
variable {prog : Program} {w : World} {A : Around} {E : Value → Shared → Prop} {s : Shared}
/-- the two new things that enumerate(t) makes, behind the tuple's own iterator `ob` -/
abbrev enuObj (it : Addr) : Obj := { cls := .type "enumerate", data := .fields #[.none, .bool false, .ref it, rawInt 0, .none, .none] }
end
/-- the tuple at a, its items in new pairs -/
def ItU (K : PySem.W.Frag) (a : Addr) : It :=
  ⟨fun i H => ∃ (xs : List V) (x : V), SqT K H a xs ∧ xs[i]? = some x, fun i H v H' => ∃ T x, v = .ref T ∧ H T = none ∧ H' = upd H T (.tup [.int (i : Nat), x]) ∧ ∀ xs, SqT K H a xs → xs[i]? = some x,
   fun i H => ∃ xs : List V, SqT K H a xs ∧ xs.length ≤ i⟩
def iEnuU (K : PySem.W.Frag) (ta : TA) : TI := fun σ H R => ta σ H fun vs H1 => ∃ a xs, vs = [.ref a] ∧ SqT K H1 a xs ∧ R (ItU K a) H1
section
variable {c : Cfg} {pos : Pos}
def enuT : RV → Option (List D)
  | .val (.tup ds) => some ds
  | .val (.ktup ds) => some ds
  | _ => none
def iEnT (ta : AT) : IT := fun env Q Xq => ta env (fun rs e1 => ∃ r ds, rs = [r] ∧ enuT r = some ds ∧ Q (enuD 0 ds) none e1) Xq
end
end VS

/-! VUD: a def that changes lists deep within its first argument, called last of all: return a or f(x, ..) -/
namespace VS
open PySem PySem.Spec L2
/-- all but the lists of A -/
def lessL (A H : Hp) : Hp := fun b => match A b with
  | some (.lst _) => none
  | _ => H b
abbrev FSpP := D → List D → (Bool → Prop) → Prop
def spP (c : Cfg) (ms : List Bool) (F : FSpP) : Sp := fun vs H Q _ => ∃ (v : V) (vs' : List V) (A G : Hp) (d : D) (ds : List D) (P : Bool → Prop), vs = v :: vs' ∧ Rep c.K c.w A v d ∧ Same A H ∧ Same G H ∧ (∀ b us, A b = some (.lst us) → G b = none) ∧
  ArgsR c.K c.w G (lessL A H) ms vs' ds ∧ F d ds P ∧ ∀ b H', P b → Same (lessL A H) H' → Q (.bl b) H'
structure FnP (c : Cfg) (x : Str) (ms : List Bool) (F : FSpP) : Prop where
  ex : ∃ f fd ps, FnOk c.P c.w c.K c.mg c.base (cxC c) c.k f fd ps (spP c ms F) ∧ c.mg x = some (.ref f) ∧ PySem.W.keepIn c.K (.ref f) = true ∧ Binds c.K fd ps []
def startP (ms : List Bool) (ds : List D) (n : Nat) : Env := .emp :: (argS ms ds ++ List.replicate (n - (ds.length + 1)) .emp)
def bodyP (P : Bool → Prop) : EndsD := { nx := fun _ => False, rt := fun rv _ => ∃ b, rv = .val (.bl b) ∧ P b, bk := fun _ => False, ct := fun _ => False, xq := noX }
section
variable {c : Cfg}
theorem FnP.lvl {x : Str} {k : Nat} {f : Addr} {fd : FuncData} {ps : List Str} {j : Nat} {ms : List Bool} {F : FSpP} (h : FnOk c.P c.w c.K c.mg c.base (cxC c) j f fd ps (spP c ms F)) (hm : c.mg x = some (.ref f)) (hk : PySem.W.keepIn c.K (.ref f) = true) (hb : Binds c.K fd ps []) (l : j ≤ k) :
    FnP (c.lv k) x ms F := ⟨⟨f, fd, ps, h.mono l, hm, hk, hb⟩⟩
theorem FnP.inn {x : Str} {k : Nat} {N : List Str} {sc : Scope} {ms : List Bool} {F : FSpP} (h : FnP (c.lv k) x ms F) : FnP (c.inn k N sc) x ms F := ⟨h.ex⟩
/-- return a or f(x, ..), the last of all -/
def dRetOr (ms : List Bool) (F : FSpP) (t : ET) (ta : AT) : EndsD → Env → D → Nat → Prop := fun D env d k => k = 0 ∧ t env (fun r e => ∃ b, r = .val (.bl b) ∧ if b = true then D.rt (.val (.bl true)) e else
  ta e (fun rs e1 => ∃ ds e2, argsE ms e1 rs = some (ds, e2) ∧ F d ds fun b => D.rt (.val (.bl b)) e2) noX) noX
end
end VS

/-! VUE: a def that empties a list and those within it: for p in list(x): if p[0] == ..: f(p[2]); x.clear() -/
namespace VS
open PySem PySem.Spec L2
/-- the lists of A are as they were, or empty -/
def CP (A H : Hp) : Prop := ∀ b o, A b = some o → H b = some o ∨ ((∃ vs, o = .lst vs) ∧ H b = some (.lst []))
/-- parts within parts, n deep -/
def FL (tst : Str → Bool) : Nat → D → Prop
  | 0, _ => False
  | n + 1, d => ∃ ds, d = .lst ds ∧ ∀ e ∈ ds, ∃ w x y, e = .tup [.str w, x, y] ∧ (tst w = true → FL tst n y)
def spE (c : Cfg) (tst : Str → Bool) (n : Nat) : Sp := fun vs H Q _ => ∃ (a : Addr) (A : Hp) (d : D), vs = [.ref a] ∧ Rep c.K c.w A (.ref a) d ∧ FL tst n d ∧ CP A H ∧ ∀ H', CP A H' → Same (lessL A H) H' → Q .non H'
structure FnE (c : Cfg) (x : Str) (tst : Str → Bool) (n : Nat) : Prop where
  ex : ∃ f fd ps, FnOk c.P c.w c.K c.mg c.base (cxC c) c.k f fd ps (spE c tst n) ∧ c.mg x = some (.ref f) ∧ PySem.W.keepIn c.K (.ref f) = true ∧ Binds c.K fd ps []
/-- a test of a part's first -/
structure ETest (c : Cfg) (e : Expr) (tst : Str → Bool) : Prop where
  ex : ∀ (X : Cx), Good c X → ∃ tt, PT X e tt ∧ ∀ (σ : St) (H : Hp) (t : Addr) (w : Str) (vx vy : V) (Q : Bool → Hp → Prop), σ[1]? = some (some (.ref t)) → SqT X.K H t [.str w, vx, vy] → Q (tst w) H → tt σ H Q
variable {c : Cfg}
abbrev emBody (q p x : Str) (te : Expr) (k : Nat) (p1 p2 p3 p4 p5 p6 p7 p8 p9 p10 p11 p12 p13 p14 p15 p16 : Pos) : List Stmt :=
  [.For (.Name q p1) (.Call (.Name "list" p2) [.Name p p3] [] p4) [.If te [.Expr (.Call (.Name x p5) [.Subscript (.Name q p6) (.Constant (.int 2) k p7) p8] [] p9) p10] [] p11] [] p12, .Expr (.Call (.Attribute (.Name p p13) "clear" p14) [] [] p15) p16]
end VS
namespace VS
open PySem PySem.Spec L2
structure EmOk (c : Cfg) (p q x : Str) (te : Expr) (tst : Str → Bool) : Prop where
  hp : VisC c 0 p
  hq : VisC c 1 q
  hqs : StoC c 1 q
  hl : BltC c "list" (.type "list")
  hx : GlC c x
  ht : ETest c te tst
theorem FnE.lvl {c : Cfg} {x : Str} {k : Nat} {f : Addr} {fd : FuncData} {ps : List Str} {j n : Nat} {tst : Str → Bool} (h : FnOk c.P c.w c.K c.mg c.base (cxC c) j f fd ps (spE c tst n)) (hm : c.mg x = some (.ref f)) (hk : PySem.W.keepIn c.K (.ref f) = true) (hb : Binds c.K fd ps []) (l : j ≤ k) :
    FnE (c.lv k) x tst n := ⟨⟨f, fd, ps, h.mono l, hm, hk, hb⟩⟩
theorem FnE.inn {c : Cfg} {x : Str} {k n : Nat} {N : List Str} {sc : Scope} {tst : Str → Bool} (h : FnE (c.lv k) x tst n) : FnE (c.inn k N sc) x tst n := ⟨h.ex⟩
/-- f(x), what is within x being ours to change -/
def dEmp (tst : Str → Bool) (n : Nat) (t : STt) : EndsD → Env → D → Nat → Prop := fun D env d k => k = 0 ∧ FL tst n d ∧ (∃ ds, d = .lst ds) ∧ t D env
end VS

/-! VUF: a list of lists of texts made here and changed in place: for y in z: ..; rows[r][c] = e -/
namespace VS
open PySem PySem.Spec L2
def gD (rows : List (List Str)) : D := .lst (rows.map fun r => .lst (r.map D.str))
/-- how such lists lie -/
def GZ (A : Hp) (v : V) (d : D) : Prop := ∃ (a : Addr) (bs : List Addr) (rows : List (List Str)), v = .ref a ∧ d = gD rows ∧ A a = some (.lst (bs.map V.ref)) ∧ bs.length = rows.length ∧
  (∀ (j : Nat) (b : Addr) (r : List Str), bs[j]? = some b → rows[j]? = some r → A b = some (.lst (r.map V.str))) ∧ (∀ x o, A x = some o → ∃ us, o = .lst us) ∧ bs.Nodup ∧ a ∉ bs
variable {c : Cfg}
def ZE (c : Cfg) (G B : Hp) (σ : St) (env : Env) (i : Nat) (v : V) (K : Env → D → Prop) : Ends :=
  { nx := fun σ' H' => ∃ A' env' G' d', K env' d' ∧ DSt c G' B A' H' σ' env' i v d' 0 ∧ GZ A' v d' ∧ Ext B G G' ∧ BorS env env' σ σ', rt := fun _ _ => False, bk := fun _ _ => False, ct := fun _ _ => False }
theorem ZE.up {G G1 B : Hp} {σ σ1 : St} {env e1 : Env} {i : Nat} {v : V} {K : Env → D → Prop} (x : Ext B G G1) (b : BorS env e1 σ σ1) : EndsLe (ZE c G1 B σ1 e1 i v K) (ZE c G B σ env i v K) :=
  ⟨fun _ _ ⟨A', env', G', d', q1, q2, q3, q4, q5⟩ => ⟨A', env', G', d', q1, q2, q3, x.trans q4, b.trans q5⟩, fun _ _ h => h, fun _ _ h => h, fun _ _ h => h⟩
def TkX (c : Cfg) (X : Cx) : Prop := ∃ (G B : Hp) (σ : St) (env : Env) (Xq : XQ), TakesC c X (WXo c G B σ env Xq)
theorem TkX.no {X : Cx} (t : TkX c X) {G1 B1 : Hp} {σ1 : St} {e1 : Env} : TakesC c X (WXo c G1 B1 σ1 e1 noX) := by
  obtain ⟨G, B, σ, env, Xq, tk⟩ := t
  exact noTakes tk
structure VB1 (c : Cfg) (i : Nat) (sts : List Stmt) (u : (Env → D → Prop) → Env → Env → D → Prop) : Prop where
  run : ∀ (X : Cx), Good c X → ∀ (G B A Gu HB H : Hp) (σ : St) (e0 env : Env) (v : V) (d : D) (K : Env → D → Prop), DS1 c G B A Gu HB H σ e0 env i v d → GZ A v d → u K e0 env d → TkX c X → TUss X sts (ZE c G B σ (backE e0 env) i v K) σ H
structure VB2 (c : Cfg) (i : Nat) (sts : List Stmt) (u : (Env → D → Prop) → Env → D → Prop) : Prop where
  run : ∀ (X : Cx), Good c X → ∀ (G B A H : Hp) (σ : St) (env : Env) (v : V) (d : D) (K : Env → D → Prop), DSt c G B A H σ env i v d 0 → GZ A v d → u K env d → TkX c X → TUss X sts (ZE c G B σ env i v K) σ H
def bEnd (u : (Env → D → Prop) → Env → D → Prop) : (Env → D → Prop) → Env → Env → D → Prop := fun K e0 env d => ∃ e1, backE e0 env = e1 ∧ u K e1 d
def midZ (e0 : Env) (i : Nat) (d : D) (P : Env → Prop) : EndsD := { nx := fun e => e[i]? = some (.bor d) ∧ e.length = e0.length ∧ P e, rt := fun _ _ => False, bk := fun _ => False, ct := fun _ => False, xq := noX }
def bCons (i : Nat) (t : STt) (u : (Env → D → Prop) → Env → Env → D → Prop) : (Env → D → Prop) → Env → Env → D → Prop := fun K e0 env d => t (midZ e0 i d (fun e => u K e0 e d)) env
def bLook (i : Nat) (u : (Env → D → Prop) → Env → Env → D → Prop) : (Env → D → Prop) → Env → D → Prop := fun K env d => env[i]? = some .emp ∧ ∃ el, (lendE env).set i (.bor d) = el ∧ u K env el d
end VS
namespace VS
open PySem PySem.Spec L2
theorem repL_sgs {K : PySem.W.Frag} {w : World} {A : Hp} : ∀ r : List Str, RepL K w A (r.map V.str) (r.map D.str)
  | [] => .nil
  | x :: r => .cons (.str x) (repL_sgs r)
theorem repL_grid {K : PySem.W.Frag} {w : World} {A : Hp} : ∀ (bs : List Addr) (rows : List (List Str)), bs.length = rows.length → (∀ (j : Nat) (b : Addr) (r : List Str), bs[j]? = some b → rows[j]? = some r → A b = some (.lst (r.map V.str))) →
    RepL K w A (bs.map V.ref) (rows.map fun r => D.lst (r.map D.str))
  | [], [], _, _ => .nil
  | b :: bs, r :: rows, hl, h => .cons (.lst (h 0 b r rfl rfl) (repL_sgs r)) (repL_grid bs rows (by simpa using hl) fun j b r h1 h2 => h (j + 1) b r (by simpa using h1) (by simpa using h2))
  | [], _ :: _, hl, _ => by simp at hl
  | _ :: _, [], hl, _ => by simp at hl
theorem GZ.rep {K : PySem.W.Frag} {w : World} {A : Hp} {v : V} {d : D} (z : GZ A v d) : Rep K w A v d := by
  obtain ⟨a, bs, rows, rfl, rfl, h1, h2, h3, _⟩ := z
  exact .lst h1 (repL_grid bs rows h2 h3)
variable {c : Cfg}
@[irreducible] def PutE (jr jc : Nat) (K : Env → D → Prop) (env : Env) (d : D) (rv : RV) : Prop := ∃ (s : Str) (rows : List (List Str)) (n m : Nat) (row : List Str), rv = .val (.str s) ∧ d = gD rows ∧ env[jr]? = some (.val (.int (n : Int))) ∧ env[jc]? = some (.val (.int (m : Int))) ∧
  rows[n]? = some row ∧ m < row.length ∧ K env (gD (rows.set n (row.set m s)))
def bPut (jr jc : Nat) (t : ET) : (Env → D → Prop) → Env → D → Prop := fun K env d => t env (fun rv e1 => e1 = env ∧ PutE jr jc K env d rv) noX
end VS
namespace VS
open PySem PySem.Spec L2
variable {c : Cfg}
structure VZ (c : Cfg) (i : Nat) (sts : List Stmt) (u : EndsD → Env → D → Prop) : Prop where
  run : ∀ (X : Cx), Good c X → ∀ (G B A H : Hp) (σ : St) (env : Env) (v : V) (d : D) (D : EndsD), DSt c G B A H σ env i v d 0 → GZ A v d → u D env d → TakesC c X (WXo c G B σ env D.xq) → TUss X sts (EndsOf c G B σ env D) σ H
def zEnd (i : Nat) (t : STt) : EndsD → Env → D → Prop := fun D env d => ∃ e1, env.set i (.val d) = e1 ∧ t D e1
def zW (gt : GT) (ub : (Env → D → Prop) → Env → D → Prop) (K : Env → D → Prop) : List D → Env → D → Prop
  | [], e, d => K e d
  | x :: ds, e, d => gt x e (fun e1 => ub (fun e' d' => zW gt ub K ds e' d') e1 d)
@[irreducible] def zL (gt : GT) (ub : (Env → D → Prop) → Env → D → Prop) (K : Env → D → Prop) (ds : List D) (e : Env) (d : D) : Prop := zW gt ub K ds e d
def zFor (gt : GT) (tS : ET) (ub : (Env → D → Prop) → Env → D → Prop) (u2 : EndsD → Env → D → Prop) : EndsD → Env → D → Prop := fun D env d => tS env (fun rv e1 => ∃ d1 e2, fz e1 rv = some (d1, e2) ∧ ∃ ds, d1 = .lst ds ∧ zL gt ub (u2 D) ds e2 d) noX
end VS

/-! VUG: rows = [list(x) for x in e], the lists within ours to change -/
namespace VS
open PySem PySem.Spec L2
def gLc (g : GT) (te : ET) (is : List Nat) (K : List (List Str) → Env → Prop) : List D → List (List Str) → Env → Prop
  | [], acc, env => K acc env
  | d :: ds, acc, env => g d env fun e1 => te e1 (fun rv e2 => ∃ r : List Str, rv = .fr (.lst (r.map D.str)) ∧ acc.length < sizeLine ∧ gLc g te is K ds (acc ++ [r]) (wipeE e2 is)) noX
@[irreducible] def GL (g : GT) (te : ET) (is : List Nat) (K : List (List Str) → Env → Prop) (ds : List D) (env : Env) : Prop := gLc g te is K ds [] env
def sGrid (i : Nat) (it : IT) (gt : GT) (te : ET) (is : List Nat) (u : EndsD → Env → D → Prop) : STt := fun D env => it env (fun ds lk e1 => GL gt te is (fun acc e => ∃ e', (unl lk e).set i .emp = e' ∧ u D e' (gD acc)) ds (wipeE (lockE lk e1) is)) D.xq
variable {c : Cfg}
structure GI (c : Cfg) (G1 B' : Hp) (σw : St) (e1' : Env) (is : List Nat) (DD : Addr) (H' : Hp) (e : Env) (acc : List (List Str)) (bs : List Addr) (A G' : Hp) : Prop where
  E : RepEnv c G' B' H' σw e
  x : Ext B' G1 G'
  hD : H' DD = some (.lst (bs.map V.ref))
  aH : Same A H'
  len : bs.length = acc.length
  Ab : ∀ (j : Nat) (b : Addr) (r : List Str), bs[j]? = some b → acc[j]? = some r → A b = some (.lst (r.map V.str))
  Ao : ∀ x o, A x = some o → x ∈ bs ∧ ∃ us, o = .lst us
  nd : bs.Nodup
  na : DD ∉ bs
  gb : ∀ b ∈ bs, G' b = none ∧ B' b = none
  gD : G' DD = none
  own : ∀ (i : Nat) (d : D) (b : Addr), e[i]? = some (Slot.own d) → σw[i]? = some (some (V.ref b)) → b ≠ DD ∧ b ∉ bs
  we : ∃ e0, e = wipeE e0 is
  bor : ∀ (i : Nat) (d : D), e[i]? = some (Slot.bor d) → e1'[i]? = some (Slot.bor d)
end VS
namespace VS
open PySem PySem.Spec L2
/-! what a proof of a law needs -/
end VS

/-! VUH: dict != dict, the same whatever the order -/
namespace VS
open PySem PySem.Spec L2 PyProof.Rows
section
variable {X : Cx}
def rNeDR : R2 := fun x y H Q => ∃ a b ks ls, x = .ref a ∧ y = .ref b ∧ Rd H a (.dK ks) ∧ Rd H b (.dK ls) ∧ ks.length = ls.length ∧ (∀ p ∈ ks, valV ls p.1 = some p.2 ∧ flatB p.2 = true) ∧ Q (.bl false) H
end
variable {c : Cfg}
/-- the same numbers to the same keys -/
def opNeK : D → D → (RV → Prop) → Prop
  | .dic false ks, .dic false ls, Q => ks.length = ls.length ∧ (∀ p ∈ ks, (∃ i : Int, p.2 = .int i) ∧ dget ls p.1 = some p.2) ∧ Q (.val (.bl false))
  | _, _, _ => False
end VS

/-! VUI: try: .., except X: raise Y('..'). -/
namespace VS
open PySem PySem.Spec L2
/-- where only errors without a context are let out -/
def ncC (c : Cfg) : Cfg := { c with nc := true }
theorem Good.ncC {c : Cfg} {X : Cx} (g : Good c X) : Good (ncC c) X := ⟨g.prog, g.w, g.K, g.mg, g.base, g.N, g.nd, g.scope, g.fn, g.roomH, g.calmH, g.po, g.stk⟩
def sTryR (isC : Str → Option Bool) (y : Str) (tb : STt) : STt := fun D env =>
  tb { D with xq := fun xd e => ∃ b, isC xd.cls = some b ∧ if b = true then D.xq ⟨y, []⟩ e else D.xq xd e } env
/-! ### names under ncC -/
section
variable {c : Cfg} {k : Nat} {N : List Str} {sc : Scope} {i : Nat} {x : Str} {ms : List Bool} {F : FSp}
theorem Glb.tr {d : D} (h : Glb c x d) : Glb (ncC (c.inn k N sc)) x d := ⟨h.ex⟩
theorem FnC.tr (h : FnC ((ncC c).lv k) x ms F) : FnC (ncC (c.inn k N sc)) x ms F := ⟨h.ex⟩
theorem Glb.nc {d : D} (h : Glb c x d) : Glb (ncC c) x d := ⟨h.ex⟩
theorem ECls.nc {isC : Str → Option Bool} (h : ECls c x isC) : ECls (ncC c) x isC := h.cfg rfl rfl
theorem XCls.nc (h : XCls c x) : XCls (ncC c) x := by
  obtain ⟨C, h⟩ := h.ex
  exact ⟨C, h.ns, h.mg, h.keep, h.exc, h.sub, h.ty⟩
end
end VS

/-! VUJ: a set made of a list of tuples of texts, none twice; sorted(set(x)). -/
namespace SX
open PySem PySem.Spec L2 PyProof.Rows
section
variable {P : Program} {w : World} {A : Around} {E : Value → Shared → Prop} {s : Shared}
/-- at b a tuple of the texts k -/
abbrev TT (P : Program) (w : World) (h : Heap) (k : List Str) (b : Addr) : Prop := IsTupleKey (PySem.strKind P w) h k b
theorem all_txt {k : List Str} {vs : List Value} (h : ItemsAre (PySem.strKind P w) k vs) : ∀ v ∈ vs, ∃ x t, v = Value.str x t := by
  induction h with
  | nil => intro v hv; cases hv
  | cons h1 _ ih =>
    intro v hv
    cases hv with
    | head =>
      obtain ⟨t, e⟩ := Value.isStrOf_shape h1
      exact ⟨_, t, e⟩
    | tail _ hv => exact ih v hv
/-- such a tuple has no class statement's object in it -/
theorem tt_class {k : List Str} {b : Addr} {Q : Bool → Shared → Prop} (h : TT P w s.heap k b) (q : Q false s) : wpAny (model P w) A (ofAClassStatement 8 (.ref b)) Q E s := by
  have ty := h.typeIs
  obtain ⟨o, its, n, ho, -, hd, hi⟩ := h
  unfold ofAClassStatement
  refine wpAny_bind (wpAny_typeOf ty ?_)
  dsimp only
  simp only [show (("tuple" : String) == "tuple") = true by decide, if_true, Bool.not_true, Bool.false_eq_true, if_false]
  try refine wpAny_bind (wpAny_pure ?_)
  try simp only [Bool.not_true, Bool.false_eq_true, if_false]
  show wpAny _ _ (seqItems? (.ref b) >>= _) _ _ s
  refine wpAny_bind (wpAny_seqItems ho hd ?_)
  dsimp only
  refine wpAny_bind ?_
  show wpAny _ _ (forIn its _ _) _ _ s
  rw [← Array.forIn_toList]
  refine wpAny_forIn_list _ (fun l r s' => (r.1 = none ∧ s' = s) ∧ ∀ v ∈ l, ∃ x t, v = Value.str x t) _ (fun v l r s' ⟨⟨e1, e2⟩, al⟩ => ?_) (fun ⟨r1, r2⟩ s' ⟨⟨e1, e2⟩, _⟩ => ?_) _ _ ⟨⟨rfl, rfl⟩, all_txt hi⟩
  · subst e2
    obtain ⟨x, t, rfl⟩ := al v List.mem_cons_self
    refine wpAny_bind (m := (pure false : Sem Bool)) (wpAny_pure ?_)
    simp only [Bool.false_eq_true, if_false]
    exact wpAny_pure ⟨⟨rfl, rfl⟩, fun u hu => al u (List.mem_cons_of_mem _ hu)⟩
  · subst e2
    cases (show r1 = none from e1)
    exact wpAny_pure q
/-- whether its hash is told by its value is not asked for -/
theorem tt_hash {k : List Str} {b : Addr} {Q : Bool → Shared → Prop} (h : TT P w s.heap k b) (q : ∀ r, Q r s) : wpAny (model P w) A (hashByValue 8 (.ref b)) Q E s := by
  have ty := h.typeIs
  obtain ⟨o, its, n, ho, -, hd, hi⟩ := h
  unfold hashByValue
  refine wpAny_bind (wpAny_specialOf ty F.slot_tuple_hash.lookup ?_)
  show wpAny _ _ (seqItems? (.ref b) >>= _) _ _ s
  refine wpAny_bind (wpAny_seqItems ho hd ?_)
  refine wpAny_bind ?_
  show wpAny _ _ (forIn its _ _) _ _ s
  rw [← Array.forIn_toList]
  refine wpAny_forIn_list _ (fun l r s' => s' = s ∧ ∀ v ∈ l, ∃ x t, v = Value.str x t) _ (fun v l r s' ⟨e2, al⟩ => ?_) (fun ⟨r1, r2⟩ s' ⟨e2, _⟩ => ?_) _ _ ⟨rfl, all_txt hi⟩
  · subst e2
    obtain ⟨x, t, rfl⟩ := al v List.mem_cons_self
    refine wpAny_bind (m := (pure false : Sem Bool)) (wpAny_pure ?_)
    simp only [Bool.not_false, if_true]
    exact wpAny_pure (wpAny_pure (q _))
  · subst e2
    cases r1 with
    | none => exact wpAny_pure (q _)
    | some r => exact wpAny_pure (q _)
/-- a search among such tuples shows nothing -/
theorem tt_seen {k : List Str} {b : Addr} {Q : Bool → Shared → Prop} (h : TT P w s.heap k b) {ys : List Value} (hy : ∀ y ∈ ys, ∃ j c, y = Value.ref c ∧ TT P w s.heap j c) (q : Q false s) :
    wpAny (model P w) A (searchCouldBeSeen (.ref b) ys) Q E s := by
  unfold searchCouldBeSeen
  refine wpAny_bind ?_
  refine wpAny_forIn_list _ (fun l r s' => (r.1 = none ∧ s' = s) ∧ ∀ y ∈ l, ∃ j c, y = Value.ref c ∧ TT P w s.heap j c) _ (fun v l r s' ⟨⟨e1, e2⟩, al⟩ => ?_) (fun ⟨r1, r2⟩ s' ⟨⟨e1, e2⟩, _⟩ => ?_) _ _ ⟨⟨rfl, rfl⟩, hy⟩
  · subst e2
    obtain ⟨j, c, rfl, hc⟩ := al v List.mem_cons_self
    have al' : ∀ y ∈ l, ∃ j c, y = Value.ref c ∧ TT P w s'.heap j c := fun u hu => al u (List.mem_cons_of_mem _ hu)
    dsimp only
    cases hv : (b == c || (carriedByValue (.ref b) && carriedByValue (.ref c))) with
    | true => exact wp_if_pos rfl (wpAny_pure ⟨⟨rfl, rfl⟩, al'⟩)
    | false =>
      refine wp_if_neg (by decide) (wpAny_bind (wpAny_eqIsQuiet_tuple h ?_))
      simp only [Bool.not_true, Bool.false_eq_true, if_false]
      refine wpAny_bind (wpAny_eqIsQuiet_tuple hc ?_)
      simp only [Bool.not_true, Bool.false_eq_true, if_false]
      refine wpAny_bind (tt_class h ?_)
      simp only [Bool.false_eq_true, if_false]
      refine wpAny_bind (tt_class hc ?_)
      simp only [Bool.false_eq_true, if_false]
      exact wpAny_pure ⟨⟨rfl, rfl⟩, al'⟩
  · subst e2
    cases (show r1 = none from e1)
    exact wpAny_pure q
end
end SX
namespace SX
open PySem PySem.Spec L2 PyProof.Rows
abbrev hT (P : Program) (w : World) (k : List Str) : Int := tupleKeyHash (PySem.strKind P w) k
/-- the set's inside: the tuples L, each with its hash -/
structure Ins (P : Program) (w : World) (h : Heap) (a : Addr) (L : List (Addr × List Str)) (es : Array (Int × Value)) (ep : Nat) (t : SetTable) : Prop where
  ob : ∃ o, h.get? a = some o ∧ o.ExactSet ∧ o.data = .set es ep t
  rows : es.toList = L.map fun p => (hT P w p.2, Value.ref p.1)
  tab : TabOk t (L.map fun p => hT P w p.2)
  tup : ∀ p ∈ L, TT P w h p.2 p.1
  led : w.params.followText "set-order" = true ∨ t.led = true
  room : L.length * 5 < t.mask * 3
  few : L.length < 64
section
variable {P : Program} {w : World} {A : Around} {E : Value → Shared → Prop} {s : Shared} {a : Addr} {L : List (Addr × List Str)} {es : Array (Int × Value)} {ep : Nat} {t : SetTable}
theorem rows_len (h : es.toList = L.map fun p => (hT P w p.2, Value.ref p.1)) : es.size = L.length := by
  have z := congrArg List.length h
  rwa [Array.length_toList, List.length_map] at z
theorem Ins.fits {h : Heap} (I : Ins P w h a L es ep t) : t.fits es.size = true := by
  have z1 := I.tab.sz
  have z2 := rows_len I.rows
  have z3 := I.room
  rw [List.length_map] at z1
  unfold SetTable.fits SetTable.fill
  rw [I.tab.dm, Bool.and_eq_true, beq_iff_eq, decide_eq_true_eq]
  show t.place.size = es.size ∧ t.place.size + 0 ≤ t.mask
  omega
theorem Ins.at {h : Heap} (I : Ins P w h a L es ep t) {i : Nat} {p : Addr × List Str} (e : L[i]? = some p) : es[i]? = some (hT P w p.2, Value.ref p.1) := by
  rw [← Array.getElem?_toList, I.rows, List.getElem?_map, e]
  rfl
theorem no_dummy (m : Nat) : ∀ (n : Nat) (p : SetTable.Probe), p.dummy = none → (nth m p n).dummy = none
  | 0, _, h => h
  | n + 1, p, h => no_dummy m n (adv m p) (by unfold adv; split <;> exact h)
/-- where a tuple that is not in yet is looked for, the first free slot of its way is found -/
theorem find_free (I : Ins P w s.heap a L es ep t) {x : Addr} {k : List Str} (hx : TT P w s.heap k x) (hk : k ∉ L.map (·.2)) (hu : A.units < cLine) {K : Nat} (hK : K < 10 * SetTable.turns t.mask)
    (hfree : way t.mask (hT P w k) K ∉ t.place.toList) (hbusy : ∀ c, c < K → way t.mask (hT P w k) c ∈ t.place.toList) {Q : SetFound → Shared → Prop} (q : Q (.free (way t.mask (hT P w k) K) false) s) :
    ∀ (f c : Nat) (stand : Option SetTable.Probe), c ≤ K → K < c + f → stand.getD (t.probeStart (hT P w k)) = nth t.mask (t.probeStart (hT P w k)) c →
      wpAny (model P w) A (setSearchFrom a (.ref x) (hT P w k) true f stand) Q E s
  | 0, c, _, h1, h2, _ => absurd h2 (by omega)
  | f + 1, c, stand, h1, h2, h3 => by
    obtain ⟨o, ho, hex, hd⟩ := I.ob
    have hs0 : t.probeStart (hT P w k) = runAt t.mask (SetTable.bits (hT P w k) % (t.mask + 1)) (SetTable.bits (hT P w k)) := rfl
    have go : ∀ n, (nth t.mask (nth t.mask (t.probeStart (hT P w k)) c) n).j = way t.mask (hT P w k) (c + n) := fun n => by rw [← nth_add]; rfl
    have spec := go_spec t I.tab.ris I.tab.dm (fun i => (es[i]?.map (·.1)).getD 0) (hT P w k) (10 * SetTable.turns t.mask) (K - c) (nth t.mask (t.probeStart (hT P w k)) c) (no_dummy _ _ _ rfl) (by omega)
      (fun n hn => by rw [go]; exact hbusy _ (by omega)) (by rw [go, show c + (K - c) = K by omega]; exact hfree)
    rw [setSearchFrom_succ]
    refine wpAny_bind (wpAny_setState_of ho hd I.fits ?_)
    dsimp only
    refine wp_if_neg (by unfold SetTable.gaveWay; rw [mask_odd I.tab.mok]; decide) ?_
    try refine wpAny_bind (wpAny_pure ?_)
    rcases spec with ⟨n, i, hn, hi, -, -, hp⟩ | ⟨-, hp⟩
    · have hp2 : t.probe (fun i => (es[i]?.map (·.1)).getD 0) (hT P w k) (stand.getD (t.probeStart (hT P w k))) = some (.candidate (way t.mask (hT P w k) (c + n)) i (nth t.mask (t.probeStart (hT P w k)) (c + (n + 1)))) := by
        rw [h3, ← go, nth_add]
        exact hp
      rw [hp2]
      dsimp only
      rw [go] at hi
      have hlt : i < L.length := by
        have z1 := (List.getElem?_eq_some_iff.mp hi).1
        have z2 := I.tab.sz
        rw [List.length_map] at z2
        rw [Array.length_toList] at z1
        omega
      obtain ⟨p, hpL⟩ : ∃ p, L[i]? = some p := ⟨_, List.getElem?_eq_getElem hlt⟩
      have hm := List.mem_of_getElem? hpL
      have hne : ¬ p.2 = k := fun e => hk (List.mem_map.mpr ⟨p, hm, e⟩)
      have live : t.slot (way t.mask (hT P w k) (c + n)) = .live i := slot_live I.tab.ris hi
      have tail : wpAny (model P w) A (searchRest a (.ref x) (hT P w k) true f es t (way t.mask (hT P w k) (c + n)) i (nth t.mask (t.probeStart (hT P w k)) (c + (n + 1)))) Q E s := by
        unfold searchRest
        rw [I.at hpL]
        dsimp only
        refine wpAny_bind (wpAny_holding (wpAny_eqBool_tuple hu (I.tup p hm) hx ?_))
        refine wpAny_bind (wpAny_setState_of ho hd I.fits ?_)
        dsimp only
        refine wp_if_neg (by simp [hne]) ?_
        try refine wpAny_bind (wpAny_pure ?_)
        rw [sameMem]
        dsimp only
        simp only [if_true, live, I.at hpL]
        refine wpAny_bind (wpAny_isSame_ref_self (wpAny_bind (wpAny_pure ?_)))
        simp only [if_true]
        refine wp_if_neg (by simp [hne]) ?_
        exact find_free I hx hk hu hK hfree hbusy q f (c + (n + 1)) _ (by omega) (by omega) rfl
      cases hl : t.led with
      | true =>
        refine wp_if_neg (by simp) ?_
        try refine wpAny_bind (wpAny_pure ?_)
        exact tail
      | false =>
        refine wp_if_pos (by simp) ?_
        refine wpAny_bind (tt_seen hx (fun y hy => ?_) ?_)
        · obtain ⟨e, he, rfl⟩ := List.mem_map.mp hy
          have he2 : e ∈ es ∧ e.1 = hT P w k := by simpa using he
          have he : e ∈ es.toList := by simpa using he2.1
          rw [I.rows] at he
          obtain ⟨p2, h2, rfl⟩ := List.mem_map.mp he
          exact ⟨_, _, rfl, I.tup p2 h2⟩
        · refine wp_if_neg (by decide) ?_
          try refine wpAny_bind (wpAny_pure ?_)
          exact tail
    · have hp2 : t.probe (fun i => (es[i]?.map (·.1)).getD 0) (hT P w k) (stand.getD (t.probeStart (hT P w k))) = some (.empty (way t.mask (hT P w k) K) none) := by
        rw [h3, show way t.mask (hT P w k) K = (nth t.mask (nth t.mask (t.probeStart (hT P w k)) c) (K - c)).j by rw [go, show c + (K - c) = K by omega]]
        exact hp
      rw [hp2]
      exact wpAny_pure q
end
end SX
namespace SX
open PySem PySem.Spec L2 PyProof.Rows
theorem range_all {α : Type} (L : List α) : ∀ n, n ≤ L.length → (List.range n).filterMap (fun i => L[i]?) = L.take n
  | 0, _ => rfl
  | n + 1, h => by
    have e : L[n]? = some L[n] := List.getElem?_eq_getElem h
    rw [List.range_succ, List.filterMap_append, range_all L n (Nat.le_of_lt h), List.take_succ, e]
    simp [e]
theorem some_map {α β : Type} (L : List α) (f : α → β) (G : Nat → β) (hG : ∀ i x, L[i]? = some x → G i = f x) : ∀ l : List Nat, (∀ i ∈ l, i < L.length) → (l.filterMap fun i => L[i]?).map f = l.map G
  | [], _ => rfl
  | i :: l, h => by
    have e : L[i]? = some (L[i]'(h i List.mem_cons_self)) := List.getElem?_eq_getElem _
    rw [List.filterMap_cons_some e, List.map_cons, List.map_cons, hG i _ e, some_map L f G hG l fun j hj => h j (List.mem_cons_of_mem _ hj)]
/-- what stands anew in another order -/
theorem anew {α : Type} {L : List α} {g : α → Int × Value} {es : Array (Int × Value)} (h : es.toList = L.map g) {order : Array Nat} (hp : order.toList.Perm (List.range L.length)) :
    ∃ L2 : List α, (order.filterMap (es[·]?)).toList = L2.map g ∧ L2.Perm L ∧ (L2.map fun p => (g p).1) = order.toList.map fun i => (es.map (·.1)).getD i 0 := by
  have ent : ∀ i, es[i]? = (L[i]?).map g := fun i => by rw [← Array.getElem?_toList, h, List.getElem?_map]
  refine ⟨order.toList.filterMap fun i => L[i]?, ?_, ?_, ?_⟩
  · rw [List.map_filterMap]
    have e : (order.filterMap fun i => es[i]?).toList = order.toList.filterMap fun i => es[i]? := by simp
    rw [e]
    congr 1
    funext i
    rw [ent]
  · have z := hp.filterMap fun i => L[i]?
    rw [range_all L L.length (Nat.le_refl _), List.take_length] at z
    exact z
  · refine some_map L _ _ (fun i x e => ?_) _ fun i hi => List.mem_range.mp (hp.mem_iff.mp hi)
    have z : (es.map (·.1))[i]? = some (g x).1 := by rw [Array.getElem?_map, ent, e]; rfl
    simp [Array.getD_eq_getD_getElem?, z]
section
variable {P : Program} {w : World} {A : Around} {E : Value → Shared → Prop} {s : Shared} {a : Addr} {L : List (Addr × List Str)} {es : Array (Int × Value)} {ep : Nat} {t : SetTable}
theorem tt_but {h h' : Heap} {k : List Str} {b : Addr} {o : Obj} (x : TT P w h k b) (ho : h.get? a = some o) (hd : o.data = .set es ep t) (sb : Heap.SameBut a h h') : TT P w h' k b := by
  obtain ⟨o1, its, n, e1, e2, e3, e4⟩ := x
  refine ⟨o1, its, n, (sb.2 b fun z => ?_).trans e1, e2, e3, e4⟩
  rw [z, ho] at e1
  cases e1
  rw [hd] at e3
  cases e3
/-- a larger table -/
theorem larger {o : Obj} (ho : s.heap.get? a = some o) (hex : o.ExactSet) (hd : o.data = .set es ep t) (hr : es.toList = L.map fun p => (hT P w p.2, Value.ref p.1)) (T : TabOk t (L.map fun p => hT P w p.2)) (hf : es.size ≤ t.mask)
    (tup : ∀ p ∈ L, TT P w s.heap p.2 p.1) (ld : w.params.followText "set-order" = true ∨ t.led = true) (few : L.length < 64) {wanted M : Nat} (hw : SetTable.sizeAbove wanted = M + 1) (hM : MaskOk M) (hn : L.length * 5 < M * 3) {Q : Unit → Shared → Prop}
    (q : ∀ h' L' es' ep' t', Heap.SameBut a s.heap h' → Ins P w h' a L' es' ep' t' → L'.Perm L → Q () { s with heap := h' }) : wpAny (model P w) A (setRelay a wanted) Q E s := by
  have hs := rows_len hr
  have hsz : t.place.size = es.size := by rw [T.sz, List.length_map, hs]
  have fit : t.fits es.size = true := by
    unfold SetTable.fits SetTable.fill
    rw [T.dm, Bool.and_eq_true, beq_iff_eq, decide_eq_true_eq]
    show t.place.size = es.size ∧ t.place.size + 0 ≤ t.mask
    omega
  have hMl : M ≤ 127 := by rcases hM with e | e | e <;> omega
  obtain ⟨t2, order, e, hp, T2, em, el, -, -⟩ := relaid_ok t (hs := es.map (·.1)) (wanted := wanted) (by rw [hw]; rfl) hM (by rw [Array.size_map, hs]; omega)
  rw [Array.size_map, hs] at hp
  obtain ⟨L2, r1, r2, r3⟩ := anew hr hp
  have r3 : (L2.map fun p => hT P w p.2) = _ := r3
  rw [← r3] at T2
  have hs2 : (order.filterMap (es[·]?)).size = es.size := by
    rw [rows_len (P := P) (w := w) r1, r2.length_eq, hs]
  rw [setRelay_eq]
  refine wpAny_bind (wpAny_setState_of ho hd fit ?_)
  dsimp only
  refine wp_if_neg (by rw [hw, sizeLine_eq]; omega) ?_
  try refine wpAny_bind (wpAny_pure ?_)
  rw [e]
  dsimp only
  refine wpAny_bind (wp_if_neg (by rw [hs2]; simp) ?_)
  try refine wpAny_bind (wpAny_pure ?_)
  refine wpAny_pure ?_
  dsimp only
  refine wpAny_storeSet_of ho hd ?_ (by rw [hs2, hs, sizeLine_eq]; omega)
  have sb : Heap.SameBut a s.heap (s.heap.update a (Obj.putSet (order.filterMap (es[·]?)) t2)) := Heap.SameBut.update ..
  exact q _ L2 _ (ep + 1) t2 sb ⟨⟨_, store_at ho hd, ⟨hex.1, hex.2.1, hex.2.2⟩, rfl⟩, r1, T2, fun p m => tt_but (tup p (r2.mem_iff.mp m)) ho hd sb, by rw [el]; exact ld, by rw [r2.length_eq, em]; exact hn, by rw [r2.length_eq]; exact few⟩ r2
theorem take_drop_perm {α : Type} (L : List α) (p : Nat) (x : α) : (L.take p ++ x :: L.drop p).Perm (x :: L) := by
  have h : (L.take p ++ x :: L.drop p).Perm (x :: (L.take p ++ L.drop p)) := List.perm_middle
  rwa [List.take_append_drop] at h
theorem TabOk.plain {hs : List Int} {b : Bool} (T : TabOk t hs) : TabOk { t with plain := b } hs := ⟨T.ris, T.dm, T.sz, T.mok, T.bd, T.reach⟩
theorem sizes : SetTable.sizeAbove (SetTable.grown 5) = 31 + 1 ∧ SetTable.sizeAbove (SetTable.grown 19) = 127 + 1 := by decide +kernel
/-- one more put in -/
theorem put_in (I : Ins P w s.heap a L es ep t) {x : Addr} {k : List Str} (hx : TT P w s.heap k x) (hk : k ∉ L.map (·.2)) (hu : A.units < cLine) (few : L.length + 1 < 64) {Q : Bool → Shared → Prop}
    (q : ∀ h' L' es' ep' t', Heap.SameBut a s.heap h' → Ins P w h' a L' es' ep' t' → L'.Perm ((x, k) :: L) → Q true { s with heap := h' }) : wpAny (model P w) A (setAddHashed a (.ref x) (hT P w k)) Q E s := by
  obtain ⟨o, ho, hex, hd⟩ := I.ob
  have hs := rows_len I.rows
  have hroom := I.room
  obtain ⟨K, hK, hfree, hbusy⟩ := I.tab.first (by rw [List.length_map]; omega) (hT P w k)
  have hKb : K < 100000 := by
    have z : 10 * SetTable.turns t.mask ≤ 1420 := by
      unfold SetTable.turns
      rcases I.tab.mok with e | e | e <;> omega
    omega
  obtain ⟨q1, q2, q3, q4, q5, -, -, -, q9⟩ := I.tab.put hfree hbusy
  unfold setAddHashed
  refine wpAny_holding ?_
  rw [show (100000 : Nat) = 99999 + 1 from rfl, setAddHashedIn_succ]
  refine wpAny_bind (wpAny_setState_of ho hd I.fits ?_)
  dsimp only
  refine wp_if_neg (by simp [byScan, Value.scannable]) ?_
  try refine wpAny_bind (wpAny_pure ?_)
  refine wpAny_bind (m := setSearch a (.ref x) (hT P w k) true) ?_
  unfold setSearch
  refine find_free I hx hk hu hK hfree hbusy ?_ 100000 0 none (Nat.zero_le _) (by omega) rfl
  dsimp only
  refine wpAny_bind (wpAny_setState_of ho hd I.fits ?_)
  dsimp only
  generalize hpt : t.put (way t.mask (hT P w k) K) = pt at q1 q3 q4 q5 q9 ⊢
  obtain ⟨t1, p⟩ := pt
  dsimp only at q1 q3 q4 q5 q9 ⊢
  subst q1
  generalize SetTable.below t.place (way t.mask (hT P w k) K) = p at q2 q3 ⊢
  -- behind the question whether its hash is told by its value
  have rest : ∀ tn : SetTable, (∃ b, tn = { t1 with plain := b }) → wpAny (model P w) A (do
      storeSet a (SetTable.insertAt es p (hT P w k, Value.ref x)) tn
      if !false && tn.tooFull then setRelay a (SetTable.grown (es.size + 1))
      return true) Q E s := fun tn ⟨b, htn⟩ => by
    have hin : (SetTable.insertAt es p (hT P w k, Value.ref x)).toList = (L.take p ++ (x, k) :: L.drop p).map fun p => (hT P w p.2, Value.ref p.1) := by
      rw [SetTable.toList_insertAt, I.rows, List.map_append, List.map_cons, List.map_take, List.map_drop]
    have hhs : (L.take p ++ (x, k) :: L.drop p).map (fun p => hT P w p.2) = (L.map fun p => hT P w p.2).take p ++ hT P w k :: (L.map fun p => hT P w p.2).drop p := by
      rw [List.map_append, List.map_cons, List.map_take, List.map_drop]
    have T1 : TabOk tn ((L.take p ++ (x, k) :: L.drop p).map fun p => hT P w p.2) := by rw [hhs, htn]; exact TabOk.plain q3
    have pm := take_drop_perm L p (x, k)
    have hlen : (L.take p ++ (x, k) :: L.drop p).length = L.length + 1 := pm.length_eq
    have m1 : tn.mask = t.mask := by rw [htn]; exact q4
    have l1 : tn.led = t.led := by rw [htn]; exact q5
    have hfill : tn.fill = L.length + 1 := by
      rw [htn]
      show t1.fill = _
      rw [q9, List.length_map]
    generalize L.take p ++ (x, k) :: L.drop p = L1 at hin T1 pm hlen
    have hes := rows_len hin
    generalize SetTable.insertAt es p (hT P w k, Value.ref x) = es1 at hin hes ⊢
    refine wpAny_bind (wpAny_storeSet_of ho hd ?_ (by rw [hes, hlen, sizeLine_eq]; omega))
    have sb : Heap.SameBut a s.heap (s.heap.update a (Obj.putSet es1 tn)) := Heap.SameBut.update ..
    have ho1 := store_at (es' := es1) (t' := tn) ho hd
    generalize s.heap.update a (Obj.putSet es1 tn) = h1 at sb ho1 ⊢
    have tup1 : ∀ p ∈ L1, TT P w h1 p.2 p.1 := fun p hp => by
      rcases List.mem_cons.mp (pm.mem_iff.mp hp) with e | m
      · rw [e]; exact tt_but hx ho hd sb
      · exact tt_but (I.tup p m) ho hd sb
    have ld1 : w.params.followText "set-order" = true ∨ tn.led = true := by rw [l1]; exact I.led
    cases hf : tn.tooFull with
    | false =>
      have room1 : (L.length + 1) * 5 < tn.mask * 3 := by
        unfold SetTable.tooFull at hf
        rw [decide_eq_false_iff_not, hfill] at hf
        omega
      first
        | (refine wpAny_bind ?_; refine wp_if_neg (by simp) ?_; refine wpAny_pure ?_)
        | (refine wp_if_neg (by simp) ?_; try refine wpAny_bind (wpAny_pure ?_))
        | skip
      exact wpAny_pure (q h1 L1 es1 (ep + 1) tn sb ⟨⟨_, ho1, ⟨hex.1, hex.2.1, hex.2.2⟩, rfl⟩, hin, T1, tup1, ld1, by rw [hlen]; exact room1, by rw [hlen]; exact few⟩ pm)
    | true =>
      have full1 : (L.length + 1) * 5 ≥ tn.mask * 3 := by
        unfold SetTable.tooFull at hf
        rw [decide_eq_true_eq, hfill] at hf
        omega
      have two : (L.length = 4 ∧ t.mask = 7) ∨ (L.length = 18 ∧ t.mask = 31) := by
        rcases I.tab.mok with e | e | e <;> omega
      have grow : ∀ M, SetTable.sizeAbove (SetTable.grown (L.length + 1)) = M + 1 → MaskOk M → (L.length + 1) * 5 < M * 3 → wpAny (model P w) A (setRelay a (SetTable.grown (es.size + 1))) (fun _ s' => wpAny (model P w) A (pure true) Q E s') E { s with heap := h1 } := fun M z1 z2 z3 => by
        rw [hs]
        refine larger (s := { s with heap := h1 }) ho1 ⟨hex.1, hex.2.1, hex.2.2⟩ rfl hin T1 (by rw [hes, hlen, m1]; omega) tup1 ld1 (by rw [hlen]; exact few) z1 z2 (by rw [hlen]; exact z3) fun h2 L2 es2 ep2 t2 sb2 I2 pm2 => ?_
        exact wpAny_pure (q h2 L2 es2 ep2 t2 (sb.trans sb2) I2 (pm2.trans pm))
      first
        | (refine wpAny_bind ?_; refine wp_if_pos (by simp) ?_)
        | (refine wp_if_pos (by simp) ?_; refine wpAny_bind ?_)
        | refine wpAny_bind ?_
      rcases two with ⟨e, _⟩ | ⟨e, _⟩
      · exact grow 31 (by rw [e]; exact sizes.1) (.inr (.inl rfl)) (by omega)
      · exact grow 127 (by rw [e]; exact sizes.2) (.inr (.inr rfl)) (by omega)
  cases hp1 : t1.plain with
  | true =>
    first
      | (refine wpAny_bind ?_; refine wp_if_pos (by simp) ?_; refine tt_hash hx fun r => ?_)
      | (refine wp_if_pos (by simp) (wpAny_bind (tt_hash hx fun r => ?_)))
      | (simp only [if_true]; refine wpAny_bind (tt_hash hx fun r => ?_))
    cases r with
    | true => exact rest t1 ⟨true, by rw [← hp1]⟩
    | false => exact rest { t1 with plain := false } ⟨false, rfl⟩
  | false =>
    first
      | (refine wpAny_bind ?_; refine wp_if_neg (by simp) ?_; refine wpAny_pure ?_)
      | (refine wp_if_neg (by simp) ?_; try refine wpAny_bind (wpAny_pure ?_))
      | (simp only [Bool.false_eq_true, if_false]; refine wpAny_bind (wpAny_pure ?_))
    exact rest t1 ⟨false, by rw [← hp1]⟩
end
end SX
namespace SX
open PySem PySem.Spec L2 PyProof.Rows
section
variable {P : Program} {w : World} {A : Around} {E : Value → Shared → Prop} {s : Shared}
theorem tt_grow {h h' : Heap} {k : List Str} {b : Addr} (x : TT P w h k b) (kp : ∀ c o, h.get? c = some o → h'.get? c = some o) : TT P w h' k b := by
  obtain ⟨o, its, n, e, r⟩ := x
  exact ⟨o, its, n, kp b o e, r⟩
theorem Ins.grow {h h' : Heap} {a : Addr} {L : List (Addr × List Str)} {es : Array (Int × Value)} {ep : Nat} {t : SetTable} (I : Ins P w h a L es ep t) (ka : ∀ o, h.get? a = some o → h'.get? a = some o) (kt : ∀ p ∈ L, TT P w h' p.2 p.1) : Ins P w h' a L es ep t := by
  obtain ⟨o, e, r⟩ := I.ob
  exact ⟨⟨o, ka o e, r⟩, I.rows, I.tab, kt, I.led, I.room, I.few⟩
theorem ins_new {h : Heap} {a : Addr} (e : h.get? a = some { cls := .type "set", dict := none, data := .set #[] 0 (.fresh 0 0 (!w.params.followText "set-order")) }) : Ins P w h a [] #[] 0 (.fresh 0 0 (!w.params.followText "set-order")) := by
  refine ⟨⟨_, e, ⟨rfl, rfl, rfl⟩, rfl⟩, rfl, ⟨.nil, rfl, rfl, .inl rfl, fun x hx => (by cases hx), fun i h j hi => (by simp at hi)⟩, fun p m => (by cases m), ?_, by show 0 * 5 < 7 * 3; decide, by show 0 < 64; decide⟩
  show _ ∨ (!w.params.followText "set-order") = true
  cases w.params.followText "set-order"
  · exact .inr rfl
  · exact .inl rfl
theorem next_key {ks : List (Addr × List Str)} (nd : (ks.map (·.2)).Nodup) {i : Nat} {p : Addr × List Str} (e : ks[i]? = some p) {L : List (Addr × List Str)} (pm : L.Perm (ks.take i)) : p.2 ∉ L.map (·.2) := fun hm => by
  have hm : p.2 ∈ (ks.take i).map (·.2) := (pm.map (·.2)).mem_iff.mp hm
  obtain ⟨j, hj, e2⟩ := List.getElem_of_mem hm
  rw [List.length_map, List.length_take] at hj
  have hi := (List.getElem?_eq_some_iff.mp e).1
  have hji : j < i := by omega
  have e3 : ks[i].2 = p.2 := by rw [(List.getElem?_eq_some_iff.mp e).2]
  rw [List.getElem_map, List.getElem_take] at e2
  have z := List.pairwise_iff_getElem.mp nd j i (by rw [List.length_map]; omega) (by rw [List.length_map]; exact hi) hji
  rw [List.getElem_map, List.getElem_map] at z
  exact z (e2.trans e3.symm)
/-- set.update's loop over a list of such tuples, none twice -/
theorem upd_loop {I : Addr} {fp wr : List Addr} {G : Array GenState → Array GenState → Prop} {n : Nat} {Pv : Nat → Value → Prop} {St : Nat → Shared → Prop} {R : Result → Shared → Prop} (W : WalksS P w A.in1 I fp wr G n Pv St) (S : Addr) (nS : S ∉ fp)
    (ks : List (Addr × List Str)) (nd : (ks.map (·.2)).Nodup) (hn : n = ks.length) (few : ks.length < 64) (val : ∀ i v, Pv i v → ∃ p, ks[i]? = some p ∧ v = .ref p.1) (h0 : Heap) (hk : ∀ p ∈ ks, TT P w h0 p.2 p.1) (oS : h0.get? S = none)
    (ow : ∀ b ∈ wr, h0.get? b = none) (hu : A.in1.units < cLine) : ∀ (m i : Nat) (s : Shared), i + m = n → St i s → (∀ b o, h0.get? b = some o → s.heap.get? b = some o) → (∃ L es ep t, Ins P w s.heap S L es ep t ∧ L.Perm (ks.take i)) →
      (∀ s' L es ep t, Moved (S :: wr) G s s' → Ins P w s'.heap S L es ep t → L.Perm ks → (∀ b o, h0.get? b = some o → s'.heap.get? b = some o) → R (.ok (.ret .none)) s') →
      codeAny (model P w) A (.builtin "set.update.loop" ⟨[.ref S, .ref I], []⟩) R s := by
  have nW : S ∉ wr := fun z => nS (W.sub _ z)
  have kpM : ∀ {s s' : Shared}, Moved wr G s s' → (∀ b o, h0.get? b = some o → s.heap.get? b = some o) → ∀ b o, h0.get? b = some o → s'.heap.get? b = some o := fun mv kp b o e => mv.heap b o (fun hb => by rw [ow b hb] at e; cases e) (kp b o e)
  intro m
  induction m with
  | zero =>
    intro i s him st kp ⟨L, es, ep, t, hI, pm⟩ fin
    obtain rfl : i = n := by omega
    refine codeAny_builtin F.entry_set_update_loop ?_
    rw [Around.under_plainId F.plain_set_update_loop _]
    show wpAny _ A.in1 (pyNext (.ref I) >>= _) _ _ s
    refine wpAny_bind (W.done s _ _ st fun s' mv => ?_)
    have kp' := kpM mv kp
    rw [hn, List.take_length] at pm
    refine wpAny_pure (fin s' L es ep t (mv.mono fun b hb => List.mem_cons_of_mem _ hb) (hI.grow (fun o e => mv.heap S o nW e) fun p hp => tt_grow (hk p (pm.mem_iff.mp hp)) kp') pm kp')
  | succ m ih =>
    intro i s him st kp ⟨L, es, ep, t, hI, pm⟩ fin
    refine codeAny_builtin F.entry_set_update_loop ?_
    rw [Around.under_plainId F.plain_set_update_loop _]
    show wpAny _ A.in1 (pyNext (.ref I) >>= _) _ _ s
    refine wpAny_bind (W.item i s _ _ (by omega) st fun v s' hv st' mv => ?_)
    obtain ⟨p, hp, rfl⟩ := val i v hv
    have kp' := kpM mv kp
    have hpk := List.mem_of_getElem? hp
    have hI' : Ins P w s'.heap S L es ep t := hI.grow (fun o e => mv.heap S o nW e) fun q hq => tt_grow (hk q (List.mem_of_mem_take (pm.mem_iff.mp hq))) kp'
    have hx : TT P w s'.heap p.2 p.1 := tt_grow (hk p hpk) kp'
    have hl : L.length + 1 < 64 := by
      have := pm.length_eq
      rw [List.length_take] at this
      omega
    show wpAny _ A.in1 (holding [Value.ref p.1] (setAdd S (.ref p.1)) >>= _) _ _ s'
    refine wpAny_bind (wpAny_holding ?_)
    unfold setAdd
    refine wpAny_holding (wpAny_bind (wpAny_pyHash_tuple hu hx ?_))
    refine put_in (s := { s' with toks := s'.toks + (p.2.length + 1) }) hI' hx (next_key nd hp pm) hu hl fun h' L' es' ep' t' sb hI2 pm2 => ?_
    have kp2 : ∀ b o, h0.get? b = some o → h'.get? b = some o := fun b o e => (sb.2 b fun z => by rw [z, oS] at e; cases e).trans (kp' b o e)
    have pm3 : L'.Perm (ks.take (i + 1)) := by
      rw [List.take_succ, hp]
      exact pm2.trans ((List.Perm.cons _ pm).trans (List.perm_append_singleton _ _).symm)
    refine wpAny_pure ⟨plainId_quiet F.plain_set_update_loop _, ih (i + 1) _ (by omega) (W.frame _ s' _ _ st' (Nat.le_add_right _ _) fun b hb o e => ?_) kp2 ⟨L', es', ep', t', hI2, pm3⟩ fun s2 L2 es2 ep2 t2 mv2 hI3 pm4 kp3 => ?_⟩
    · rw [sb.2 b fun z : b = S => nS (z ▸ hb)]; exact e
    · refine fin s2 L2 es2 ep2 t2 (Moved.trans W.gtrans ((mv.mono fun b hb => List.mem_cons_of_mem _ hb).then_heap (Nat.le_add_right _ _) fun b o hb e => ?_) mv2) hI3 pm4 kp3
      rw [sb.2 b fun z : b = S => hb (z ▸ List.mem_cons_self)]; exact e
/-- set(x), x such a list -/
theorem set_of_list {l : Addr} {items : Array Value} (ks : List (Addr × List Str)) (nd : (ks.map (·.2)).Nodup) {Q : Value → Shared → Prop} (hh : A.handled = none) (hl : s.heap.IsList l items) (hit : items.toList = ks.map fun p => Value.ref p.1)
    (hk : ∀ p ∈ ks, TT P w s.heap p.2 p.1) (few : ks.length < 64) (hu : A.units + 3 < cLine)
    (q : ∀ (h' : Heap) (tk : Nat) L es ep t, Ins P w h' s.heap.objs.size L es ep t → L.Perm ks → (∀ b o, s.heap.get? b = some o → h'.get? b = some o) → Q (.ref s.heap.objs.size) { s with heap := h', toks := tk }) :
    wpAny (model P w) A (call (.type "set") [.ref l]) Q E s := by
  have hsz : items.size = ks.length := by
    have z := congrArg List.length hit
    rwa [Array.length_toList, List.length_map] at z
  have old : ∀ b, s.heap.objs.size ≤ b → s.heap.get? b = none := fun b hb => by
    cases e : s.heap.get? b with
    | none => rfl
    | some o => exact absurd (Heap.lt_size e) (Nat.not_lt.mpr hb)
  obtain ⟨c, tl, hmro⟩ := F.called_set.mro
  have made := F.called_set.made
  have sub := F.called_set.sub
  refine wpAny_call (codeAny_of_tree ?_)
  show wpAny _ _ (callAny (.type "set") _) _ _ _
  refine wpAny_pure ⟨Code.quiet_builtin _ (by decide +kernel), codeAny_builtin F.entry_type_call ?_⟩
  rw [Around.under_plain (weight_type_call_type "set" [.ref l] []) rfl]
  have t1 := F.called_set.notType
  have t2 := F.called_set.canCreate
  have t3 := F.typeCall_set_1 (.ref l)
  repeat (any_goals (first | assumption | wp_step))
  have made1 := code_set_led1 (P := P) (w := w) (A := A.in1) (s := s) (.ref l) (E := E) (Q₁ := fun v s1 => v = .ref s.heap.objs.size ∧ s1 = { s with heap := s.heap.push { cls := .type "set", dict := none, data := .set #[] 0 (.fresh 0 0 (!w.params.followText "set-order")) } }) ⟨rfl, rfl⟩
  refine codeAny_mono made1 fun r s1 hr => ?_
  rcases r with e | fl
  · exact hr
  cases fl with
  | ret v =>
    obtain ⟨rfl, rfl⟩ := hr
    have gS : (s.heap.push ({ cls := .type "set", dict := none, data := .set #[] 0 (.fresh 0 0 (!w.params.followText "set-order")) } : Obj)).get? s.heap.objs.size = some ({ cls := .type "set", dict := none, data := .set #[] 0 (.fresh 0 0 (!w.params.followText "set-order")) } : Obj) := Heap.get?_push_size _ rfl
    have tS : Shared.TypeIs { s with heap := s.heap.push ({ cls := .type "set", dict := none, data := .set #[] 0 (.fresh 0 0 (!w.params.followText "set-order")) } : Obj) } (.ref s.heap.objs.size) "set" := ⟨_, gS, rfl⟩
    have li := F.called_set.init.lookup
    have bi := F.called_set.init.bind (.ref s.heap.objs.size)
    repeat (any_goals (first | assumption | wp_step))
    refine codeAny_mono (codeAny_call_builtin (R := wants (fun r s2 => r = .none ∧ ∃ h' tk L es ep t, s2 = { s with heap := h', toks := tk } ∧ Ins P w h' s.heap.objs.size L es ep t ∧ L.Perm ks ∧ ∀ b o, s.heap.get? b = some o → h'.get? b = some o) E)
      F.called_set.init.plain F.entry_set_init (check_set_init_1 tS ?_)) fun r2 s2 hr2 => ?_
    · obtain ⟨⟨ocls, odict, odata, oslots⟩, hol, hcl, nl, hdl⟩ := hl
      simp only at hcl hdl
      subst hcl hdl
      have hlS : l < s.heap.objs.size := Heap.lt_size hol
      have hol' : (s.heap.push ({ cls := .type "set", dict := none, data := .set #[] 0 (.fresh 0 0 (!w.params.followText "set-order")) } : Obj)).get? l = some { cls := .type "list", dict := odict, data := .seq items nl, slots := oslots } := Heap.get?_push_of_some _ hol
      have hsls := F.sub_list_set
      have hslf := F.sub_list_frozenset
      have hne : (Value.type "list" == Value.type "dict") = false := by decide
      have hl1 : (s.heap.push ({ cls := .type "set", dict := none, data := .set #[] 0 (.fresh 0 0 (!w.params.followText "set-order")) } : Obj)).IsList l items := ⟨_, hol', rfl, nl, rfl⟩
      have hz1 : (s.heap.push ({ cls := .type "set", dict := none, data := .set #[] 0 (.fresh 0 0 (!w.params.followText "set-order")) } : Obj)).objs.size = s.heap.objs.size + 1 := Heap.size_push ..
      unfold Builtin.«set.__init__» noKeywords Builtin.Frozenset.updateFrom
      generalize hPI : pyIter = PI
      wp_walk
      subst hPI
      refine wpAny_pyIter_list hl1 ?_
      refine wpAny_bind (wpAny_runValue ?_)
      refine upd_loop ((Walks.list (by simp [hh]) _ l (by rw [hz1]; exact Nat.ne_of_lt (Nat.lt_succ_of_lt hlS)) items).toS) s.heap.objs.size (by rw [hz1]; simp only [List.mem_cons, List.not_mem_nil, or_false, not_or]; exact ⟨Nat.ne_of_lt (Nat.lt_succ_self _), Nat.ne_of_gt hlS⟩) ks nd hsz few (fun i v hv => ?_) s.heap hk (old _ (Nat.le_refl _)) (fun b hb => old b (by rw [List.mem_singleton.mp hb, hz1]; omega)) hu items.size 0 _ (by omega)
        ⟨⟨_, Heap.get?_push_size _ rfl, rfl, rfl⟩, hl1.push _⟩ (fun b o e => Heap.get?_push_of_some _ (Heap.get?_push_of_some _ e)) ⟨[], #[], 0, _, ins_new (Heap.get?_push_of_some _ gS), by simp⟩ fun s3 L es ep t mv hI pm kp => ?_
      · have z : items.toList[i]? = some v := by rw [Array.getElem?_toList]; exact hv
        rw [hit, List.getElem?_map] at z
        obtain ⟨p, h1, h2⟩ := Option.map_eq_some_iff.mp z
        exact ⟨p, h1, h2.symm⟩
      · obtain ⟨h3, g3, d3, k3, o3⟩ := s3
        obtain rfl : g3 = s.gens := mv.gens
        obtain rfl : d3 = s.drawn := mv.drawn
        obtain rfl : o3 = s.os := mv.os
        show wpAny _ _ _ _ _ _
        refine wpAny_pure ?_
        show wpAny _ _ (ret Value.none) _ _ _
        exact wpAny_pure ⟨rfl, h3, k3, L, es, ep, t, rfl, hI, pm, kp⟩
    · rcases r2 with e | fl2
      · exact hr2
      cases fl2 with
      | ret r =>
        obtain ⟨rfl, h', tk, L, es, ep, t, rfl, hI, pm, kp⟩ := hr2
        repeat (any_goals (first | assumption | wp_step))
        exact q _ _ _ _ _ _ hI pm kp
      | _ => exact hr2.elim
  | _ => exact hr.elim
end
end SX

/-! VUK: sorted(set(x)), x a list of tuples of texts, rising, none twice. -/
namespace VS
open PySem PySem.Spec L2 PySem.W
open PyProof.Rows (seqObj sortedHeap)
def tD (k : List Str) : D := .tup (k.map D.str)
theorem tD_inj {a b : List Str} (h : tD a = tD b) : a = b := map_inj (fun x y e => D.str.inj e) (D.tup.inj h)
/-- what is mapped in another order is what is in another order, mapped -/
theorem perm_of_map {α β : Type} (f : α → β) : ∀ (M : List β) (F : List α), M.Perm (F.map f) → ∃ L : List α, M = L.map f ∧ L.Perm F
  | [], F, h => by
    have e := h.length_eq
    rw [List.length_map] at e
    exact ⟨[], rfl, by rw [List.length_eq_zero_iff.mp e.symm]⟩
  | d :: M, F, h => by
    obtain ⟨x, hx, rfl⟩ := List.mem_map.mp (h.mem_iff.mp List.mem_cons_self)
    obtain ⟨A, B, rfl⟩ := List.append_of_mem hx
    have h2 : (f x :: M).Perm (f x :: (A ++ B).map f) := by
      rw [List.map_append, List.map_cons] at h
      rw [List.map_append]
      exact h.trans List.perm_middle
    obtain ⟨L, rfl, p⟩ := perm_of_map f M (A ++ B) (List.Perm.cons_inv h2)
    exact ⟨x :: L, rfl, (p.cons x).trans List.perm_middle.symm⟩
theorem map_nodup_inj {α β : Type} {f : α → β} : ∀ {l m : List α}, (m.map f).Nodup → l.Perm m → l.map f = m.map f → l = m := fun {l m} nd pm e => by
  have hm : ∀ x ∈ m, ∀ y ∈ m, f x = f y → x = y := fun x hx y hy e => by
    obtain ⟨i, hi, rfl⟩ := List.getElem_of_mem hx
    obtain ⟨j, hj, rfl⟩ := List.getElem_of_mem hy
    rcases Nat.lt_trichotomy i j with c | c | c
    · exact absurd (by rw [List.getElem_map, List.getElem_map]; exact e) (List.pairwise_iff_getElem.mp nd i j (by rw [List.length_map]; exact hi) (by rw [List.length_map]; exact hj) c)
    · subst c; rfl
    · exact absurd (by rw [List.getElem_map, List.getElem_map]; exact e.symm) (List.pairwise_iff_getElem.mp nd j i (by rw [List.length_map]; exact hj) (by rw [List.length_map]; exact hi) c)
  have hlen : l.length = m.length := pm.length_eq
  refine List.ext_getElem hlen fun i h1 h2 => ?_
  refine hm _ (pm.mem_iff.mp (List.getElem_mem h1)) _ (List.getElem_mem h2) ?_
  have z := congrArg (fun q : List β => q[i]?) e
  rw [List.getElem?_map, List.getElem?_map, List.getElem?_eq_getElem h1, List.getElem?_eq_getElem h2] at z
  exact Option.some.inj z
theorem sortable_perm {l m : List PyData} (p : l.Perm m) (h : Sortable l) : Sortable m := h.imp (fun h d hd => h d (p.mem_iff.mpr hd)) fun h d hd => h d (p.mem_iff.mpr hd)
def rSortSetT (K : PySem.W.Frag) : V → Hp → VK → Prop := fun x H Q => ∃ (l : Addr) (ks : List (Addr × List Str)), x = .ref l ∧ SqL K H l (ks.map fun p => V.ref p.1) ∧ (∀ p ∈ ks, SqT K H p.1 (p.2.map V.str)) ∧ (ks.map (·.2)).Nodup ∧ ks.length < 64 ∧
  (∀ p ∈ ks, ∃ n, n ≤ 50 ∧ (tD p.2).toPy.depth ≤ n ∧ Dp K H (.ref p.1) (tD p.2).toPy) ∧ (∀ p ∈ ks, ∀ r ∈ ks, alike (tD p.2).toPy (tD r.2).toPy = true) ∧ Sortable ((ks.map fun p => tD p.2).map D.toPy) ∧
  (ks.map fun p => tD p.2).Pairwise (fun a b => leD a b = true) ∧ (∀ p ∈ ks, ∀ r ∈ ks, leD (tD p.2) (tD r.2) = true → leD (tD r.2) (tD p.2) = true → tD p.2 = tD r.2) ∧ ∀ p, H p = none → Q (.ref p) (upd H p (.lst (ks.map fun q => V.ref q.1)))
theorem items_strs {P : Program} {w : World} : ∀ {k : List Str} {us : List Value}, Vals (k.map V.str) us → ItemsAre (PySem.strKind P w) k us
  | [], _, h => by cases h; exact .nil
  | x :: k, _, h => by
    cases h with
    | cons h1 h2 =>
      obtain ⟨t, rfl⟩ := h1
      exact .cons (by show Value.isStrOf x (.str x t) = true; simp [Value.isStrOf]) (items_strs h2)
theorem tt_of {X : Cx} {pins : List (Addr × Obj)} {σ : St} {H : Hp} {s : Shared} {b : Addr} {k : List Str} (I : Inv X pins σ H s) (h : SqT X.K H b (k.map V.str)) : SX.TT X.prog X.w s.heap k b := by
  obtain ⟨its, rv, ⟨o, ho, hc, n, hd⟩, _⟩ := I.tuple h
  exact ⟨o, its.toArray, n, ho, hc, hd, items_strs rv⟩
theorem vals_refs1 : ∀ {L : List (Addr × List Str)} {us : List Value}, Vals (L.map fun p => V.ref p.1) us → us = L.map fun p => Value.ref p.1
  | [], _, .nil => rfl
  | p :: L, _, .cons h t => by
    have h1 : _ = Value.ref p.1 := h
    rw [h1, vals_refs1 t]
    rfl
theorem pe_sortSetT {X : Cx} {a : Expr} {ta : TE} {p p2 q pos : Pos} (hg : Gl X "sorted") (hm : X.mg "sorted" = none) (hg2 : Gl X "set") (hm2 : X.mg "set" = none) (ha : PE X a ta) (hc : X.calm = true) (hu : X.A.units + 64 < cLine)
    (na : starEach [a] X.env = (false, eval a X.env) :: starEach [] X.env) : PE X (.Call (.Name "sorted" p) [.Call (.Name "set" p2) [a] [] q] [] pos) (tUn (rSortSetT X.K) ta) := by
  refine ⟨fun pins s σ H Q I h => ?_⟩
  refine PyProof.Rows.Call_ (ld_blt I hg hm (show bootBuiltins "sorted" = some (.builtin "sorted") by decide +kernel) ?_)
  refine PyProof.Rows.callWith_builtin1 (PyProof.Rows.args_cons ?_ rfl) rfl rfl
  refine PyProof.Rows.Call_ (ld_blt I hg2 hm2 (show bootBuiltins "set" = some (.type "set") by decide +kernel) ?_)
  refine PyProof.Rows.callWith_type1 (PyProof.Rows.args_cons (thn (ha.run pins s σ H _ I h) fun v s1 ⟨x, H1, I1, r1, q1⟩ => PyProof.Rows.args_nil ?_) na) na rfl
  obtain ⟨l, ks, rfl, hq, htup, hnd, hlen, hdp, hal, hso, hpw, hanti, q1⟩ := q1
  cases r1
  have hh := I1.ok.hd hc
  obtain ⟨its, rv, hl, hz⟩ := I1.list hq
  have hits := vals_refs1 rv
  refine SX.set_of_list ks hnd hh hl.isList (by simpa using hits) (fun p hp => tt_of I1 (htup p hp)) hlen (by omega) fun h' tk L es ep t hI pm kp => ?_
  refine PyProof.Rows.args_nil ?_
  have I2 : Inv X pins σ H1 { s1 with heap := h', toks := tk } := I1.kept kp
  obtain ⟨o, ho, hex, hd⟩ := hI.ob
  have hes := SX.rows_len hI.rows
  have hL := pm.length_eq
  refine Calls.call_function_entry PyProof.Rows.kind_sorted PyProof.Rows.plain_sorted PyProof.Rows.entry_sorted (PyProof.Rows.args_sorted1 _) ?_
  unfold Builtin.«sorted»
  refine wpAny_bind (m := checkCount "sorted" 1 1 _) (wpAny_pure ?_)
  refine wpAny_bind (collect_set (s := { s1 with heap := h', toks := tk }) (A := X.A.in1) hh ⟨o, ho, hex.1, hd⟩ hI.fits (by unfold scanBound; omega) hI.tab.ris hI.led fun s2 us k2 hz2 g2 o2 pu => ?_)
  have hrow : es.toList.map (·.2) = L.map fun p => Value.ref p.1 := by
    rw [hI.rows, List.map_map]
    rfl
  rw [hrow] at pu
  obtain ⟨L1, rfl, pL1⟩ := perm_of_map (fun p : Addr × List Str => Value.ref p.1) us L pu
  have pk : L1.Perm ks := pL1.trans pm
  have hl1 : L1.length = ks.length := pk.length_eq
  have k12 : ∀ b o, s1.heap.get? b = some o → s2.heap.get? b = some o := fun b o e => k2 b o (kp b o e)
  have es2 : s2 = { s1 with heap := s2.heap, gens := s2.gens, drawn := s2.drawn, toks := s2.toks } := by
    cases s2
    cases s1
    cases o2
    rfl
  have J : Inv X pins σ H1 s2 := by
    rw [es2]
    exact I1.call (ch := []) (Un.kept k12) (I1.hok.kept k12) (by rw [g2]; exact I1.bare) (fun _ z => nomatch z)
  refine wpAny_bind (wpAny_newList ?_ (by rw [List.length_map, sizeLine_eq]; omega))
  have hoL : (s2.heap.push (seqObj "list" (L1.map fun p => Value.ref p.1).toArray 0)).get? s2.heap.objs.size = some (seqObj "list" (L1.map fun p => Value.ref p.1).toArray 0) := Heap.get?_push_size _ rfl
  show wpAny _ _ _ _ _ { s2 with heap := s2.heap.push (seqObj "list" (L1.map fun p => Value.ref p.1).toArray 0) }
  have kp2 : ∀ b u, s2.heap.get? b = some u → (s2.heap.push (seqObj "list" (L1.map fun p => Value.ref p.1).toArray 0)).get? b = some u := fun b u e => Heap.get?_push_of_some _ e
  have I3 : Inv X pins σ H1 { s2 with heap := s2.heap.push (seqObj "list" (L1.map fun p => Value.ref p.1).toArray 0) } := J.kept (t' := s2.toks) kp2
  have er : EachIs (fun u (b : Addr × List Str) => ∃ as, Reads (s2.heap.push (seqObj "list" (L1.map fun p => Value.ref p.1).toArray 0)) u (tD b.2).toPy as ∧ s2.heap.objs.size ∉ as) (L1.map fun p => Value.ref p.1) L1 := by
    have key : ∀ M : List (Addr × List Str), (∀ p ∈ M, p ∈ ks) → EachIs (fun u (b : Addr × List Str) => ∃ as, Reads (s2.heap.push (seqObj "list" (L1.map fun p => Value.ref p.1).toArray 0)) u (tD b.2).toPy as ∧ s2.heap.objs.size ∉ as) (M.map fun p => Value.ref p.1) M := fun M => by
      induction M with
      | nil => intro _; exact .nil
      | cons p M ih =>
        intro hM
        obtain ⟨n, h50, hdep, dp⟩ := hdp p (hM p List.mem_cons_self)
        obtain ⟨as, hr⟩ := Dp.reads J _ _ _ dp (show RelV (.ref p.1) (.ref p.1) from rfl)
        exact .cons ⟨as, PyProof.Rows.Reads.keeps kp2 hr, fun hm => Nat.lt_irrefl _ (Reads.lt _ _ _ (hal p (hM p List.mem_cons_self) p (hM p List.mem_cons_self)) hr _ hm)⟩ (ih fun q hq => hM q (List.mem_cons_of_mem _ hq))
    exact key L1 fun p hp => pk.mem_iff.mp hp
  have ev : EachIs (fun u (b : Addr × List Str) => RelV (V.ref b.1) u) (L1.map fun p => Value.ref p.1) L1 := by
    clear er
    have key : ∀ M : List (Addr × List Str), EachIs (fun u (b : Addr × List Str) => RelV (V.ref b.1) u) (M.map fun p => Value.ref p.1) M := fun M => by
      induction M with
      | nil => exact .nil
      | cons p M ih => exact .cons rfl ih
    exact key L1
  refine wpAny_bind (wpAny_holding (wpAny_mono (list_sort_data (s := { s2 with heap := s2.heap.push (seqObj "list" (L1.map fun p => Value.ref p.1).toArray 0) }) (a := s2.heap.objs.size) (n := 0) (enc := fun b : Addr × List Str => (tD b.2).toPy) (R := fun u b => RelV (V.ref b.1) u)
    (Q := fun _ s' => ∃ out : List Value, s' = { s2 with heap := sortedHeap (s2.heap.push (seqObj "list" (L1.map fun p => Value.ref p.1).toArray 0)) s2.heap.objs.size (L1.map fun p => Value.ref p.1) (List.toArray out) } ∧ EachIs (fun u (b : Addr × List Str) => RelV (V.ref b.1) u) out (L1.mergeSort (dataLe false fun b => (tD b.2).toPy)))
    (E := fun _ _ => False) hoL ev er ?_ ?_ ?_ ?_ ?_) (fun r s' hs => ?_) (fun e s' hs => ?_)))
  · intro d hd d' hd'
    obtain ⟨a, ha, rfl⟩ := List.mem_map.mp hd
    obtain ⟨b, hb, rfl⟩ := List.mem_map.mp hd'
    exact hal a (pk.mem_iff.mp ha) b (pk.mem_iff.mp hb)
  · have e : (L1.map fun b => (tD b.2).toPy).Perm ((ks.map fun p => tD p.2).map D.toPy) := by
      rw [List.map_map]
      exact pk.map _
    exact sortable_perm e.symm hso
  · rw [hl1, sizeLine_eq]; omega
  · intro b hb
    obtain ⟨n, h50, hdep, _⟩ := hdp b (pk.mem_iff.mp hb)
    show X.A.units + 1 + 1 + (tD b.2).toPy.depth < cLine
    omega
  · exact fun out hl he => ⟨out, rfl, he⟩
  · obtain ⟨out, rfl, he⟩ := hs
    refine wpAny_pure ⟨_, rfl, ?_⟩
    obtain ⟨ep', he'⟩ := PyProof.Rows.sortedHeap_at (vs := L1.map fun p => Value.ref p.1) (out := out.toArray) hoL
    have hperm : (L1.mergeSort (dataLe false fun b : Addr × List Str => (tD b.2).toPy)).Perm L1 := List.mergeSort_perm _ _
    have em := sort_maps (r := dataLe false fun b : Addr × List Str => (tD b.2).toPy) (s := leD) (fun b => tD b.2) (l := L1) (fun _ _ _ _ => rfl)
    have e1 : (L1.mergeSort (dataLe false fun b : Addr × List Str => (tD b.2).toPy)).map (fun b => tD b.2) = ks.map fun b => tD b.2 := by
      rw [em]
      refine List.Perm.eq_of_pairwise (le := fun a b => leD a b = true) (fun a b ha hb h1 h2 => ?_) (leD_pairwise _) hpw ((List.mergeSort_perm _ _).trans (pk.map _))
      obtain ⟨x, hx, rfl⟩ := List.mem_map.mp ((List.mergeSort_perm _ _).mem_iff.mp ha)
      obtain ⟨y, hy, rfl⟩ := List.mem_map.mp hb
      exact hanti x (pk.mem_iff.mp hx) y hy h1 h2
    have hnd2 : (ks.map fun b => tD b.2).Nodup := by
      have e : (ks.map fun b => tD b.2) = (ks.map (·.2)).map tD := by rw [List.map_map]; rfl
      rw [e]
      exact List.pairwise_map.mpr (hnd.imp fun h z => h (tD_inj z))
    have e2 := map_nodup_inj hnd2 (hperm.trans pk) e1
    rw [e2] at he
    have hv : ∀ {M : List (Addr × List Str)} {us : List Value}, EachIs (fun u (b : Addr × List Str) => RelV (V.ref b.1) u) us M → Vals (M.map fun q => V.ref q.1) us := fun {M us} h => by
      induction h with
      | nil => exact .nil
      | cons h1 _ ih => exact .cons h1 ih
    refine ⟨.ref s2.heap.objs.size, upd H1 s2.heap.objs.size (.lst (ks.map fun q => V.ref q.1)), J.laid (t' := s2.toks) (fun b u e => ?_) (Nat.le_refl _)
      (show ObjOk X.prog X.w _ _ _ (.lst _) from ⟨by rw [List.length_map, sizeLine_eq]; omega, out, ep', hv he, he'⟩), rfl, q1 _ (J.hok.fresh (Nat.le_refl _))⟩
    have hb : b < s2.heap.objs.size := Heap.lt_size e
    rw [PyProof.Rows.sortedHeap_old (Nat.ne_of_lt hb) (by rw [PyProof.Rows.size_push']; exact Nat.lt_succ_of_lt hb)]
    exact Heap.get?_push_of_some _ e
  · exact hs.elim
/-! by plain values -/
def opSortSetT : D → (RV → Prop) → Prop
  | .lst xs, Q => ∃ R : List (List Str), xs = R.map tD ∧ R.Nodup ∧ R.length < 64 ∧ D.okL 50 xs = true ∧ (∀ x ∈ xs, ∀ y ∈ xs, alike x.toPy y.toPy = true) ∧ Sortable (xs.map D.toPy) ∧ xs.Pairwise (fun a b => leD a b = true) ∧ Q (.fr (.lst xs))
  | _, _ => False
theorem ve_sortSetT {c : Cfg} {a : Expr} {ta : ET} {p p2 q pos : Pos} {u u2 : Value} (h1 : BltC c "sorted" u) (h2 : BltC c "set" u2) (ha : VE c a ta) (hn : noStar a = true := by rfl) (hc : c.calm = true := by rfl) :
    VE c (.Call (.Name "sorted" p) [.Call (.Name "set" p2) [a] [] q] [] pos) (eOp1 opSortSetT ta) := by
  refine ve_op1 (r := rSortSetT c.K) (fun X g => ?_) ?_ ha
  · have z := pe_sortSetT (p := p) (p2 := p2) (q := q) (pos := pos) (GlC.gl g h1.gl) (by rw [g.mg]; exact h1.mg) (GlC.gl g h2.gl) (by rw [g.mg]; exact h2.mg) (pe_tu (X := X) (e := a)) (g.calm hc) g.un (star_cons hn)
    rw [g.K] at z
    exact z
  · intro G H y da P K s r o f
    unfold opSortSetT at o
    split at o
    · obtain ⟨R, rfl, nd, h64, hok, hal, hso, hpw, q⟩ := o
      obtain ⟨l, vs, rfl, hq, rr⟩ := r
      have key : ∀ (R : List (List Str)) (vs : List V), RepL c.K c.w G vs (R.map tD) → D.okL 50 (R.map tD) = true → ∃ ks : List (Addr × List Str), vs = ks.map (fun p => V.ref p.1) ∧ R = ks.map (·.2) ∧ (∀ p ∈ ks, SqT c.K H p.1 (p.2.map V.str)) ∧ ∀ p ∈ ks, ∃ n, n ≤ 50 ∧ (tD p.2).toPy.depth ≤ n ∧ Dp c.K H (.ref p.1) (tD p.2).toPy := fun R => by
        induction R with
        | nil => intro vs h _; cases h; exact ⟨[], rfl, rfl, fun p h => (by cases h), fun p h => (by cases h)⟩
        | cons k R ih =>
          intro vs h ok
          rw [List.map_cons] at h ok
          simp only [D.okL, Bool.and_eq_true] at ok
          cases h with
          | cons h1 h2 =>
            obtain ⟨ks, rfl, rfl, i3, i4⟩ := ih _ h2 ok.2
            have hdp := Rep.dp (h1.mono s) ok.1
            cases (show Rep c.K c.w G _ (.tup (k.map D.str)) from h1) with
            | @tup b ws _ hb hr =>
              rw [repL_strsI hr] at hb
              refine ⟨(b, k) :: ks, rfl, rfl, fun p hp => ?_, fun p hp => ?_⟩
              · rcases List.mem_cons.mp hp with e | hp
                · rw [e]; exact SqT.of (s _ _ hb)
                · exact i3 p hp
              · rcases List.mem_cons.mp hp with e | hp
                · rw [e]; exact ⟨50, Nat.le_refl _, (D.ok_lay 50 _ ok.1).2, hdp⟩
                · exact i4 p hp
      obtain ⟨ks, rfl, rfl, i3, i4⟩ := key R vs rr hok
      have e1 : ks.map (fun p => tD p.2) = (ks.map (·.2)).map tD := by rw [List.map_map]; rfl
      have mm : ∀ p ∈ ks, tD p.2 ∈ (ks.map (·.2)).map tD := fun p hp => by rw [← e1]; exact List.mem_map.mpr ⟨p, hp, rfl⟩
      have okm : ∀ x ∈ (ks.map (·.2)).map tD, D.okD 50 x = true := by
        have key2 : ∀ xs : List D, D.okL 50 xs = true → ∀ x ∈ xs, D.okD 50 x = true := fun xs => by
          induction xs with
          | nil => intro _ x hx; cases hx
          | cons y xs ih =>
            intro h x hx
            simp only [D.okL, Bool.and_eq_true] at h
            rcases List.mem_cons.mp hx with e | hx
            · rw [e]; exact h.1
            · exact ih h.2 x hx
        exact key2 _ hok
      refine ⟨l, ks, rfl, hq, i3, nd, by rw [List.length_map] at h64; exact h64, i4, fun p hp r hr => hal _ (mm p hp) _ (mm r hr), by rw [e1]; exact hso, by rw [e1]; exact hpw, fun p hp r hr z1 z2 => leD_anti (okm _ (mm p hp)) (okm _ (mm r hr)) (hal _ (mm p hp) _ (mm r hr)) z1 z2, fun a' ha' => ?_⟩
      exact f.lst s q rr a' ha'
    · exact o.elim
end VS

/-! WZN: how many least forms there are -/
namespace VN
open PySem VS PySem.W
def tabL : Nat → List (List Nat)
  | 1 => [[0], [0], [0], [0], [0], [0], [0], [0]]
  | 2 => [[0, 1, 2, 3], [1, 0, 3, 2], [2, 3, 0, 1], [3, 2, 1, 0], [0, 2, 1, 3], [2, 0, 3, 1], [1, 3, 0, 2], [3, 1, 2, 0], [0, 1, 2, 3], [1, 0, 3, 2], [2, 3, 0, 1], [3, 2, 1, 0], [0, 2, 1, 3], [2, 0, 3, 1], [1, 3, 0, 2], [3, 1, 2, 0], [0, 1, 2, 3], [1, 0, 3, 2], [2, 3, 0, 1], [3, 2, 1, 0], [0, 1, 2, 3], [1, 0, 3, 2], [2, 3, 0, 1], [3, 2, 1, 0], [0, 2, 1, 3], [2, 0, 3, 1], [1, 3, 0, 2], [3, 1, 2, 0], [0, 2, 1, 3], [2, 0, 3, 1], [1, 3, 0, 2], [3, 1, 2, 0]]
  | 3 => [[0, 1, 2, 3, 4, 5, 6, 7, 8], [2, 0, 1, 5, 3, 4, 8, 6, 7], [1, 2, 0, 4, 5, 3, 7, 8, 6], [6, 7, 8, 0, 1, 2, 3, 4, 5], [8, 6, 7, 2, 0, 1, 5, 3, 4], [7, 8, 6, 1, 2, 0, 4, 5, 3], [3, 4, 5, 6, 7, 8, 0, 1, 2], [5, 3, 4, 8, 6, 7, 2, 0, 1], [4, 5, 3, 7, 8, 6, 1, 2, 0], [0, 6, 3, 1, 7, 4, 2, 8, 5], [3, 0, 6, 4, 1, 7, 5, 2, 8], [6, 3, 0, 7, 4, 1, 8, 5, 2], [2, 8, 5, 0, 6, 3, 1, 7, 4], [5, 2, 8, 3, 0, 6, 4, 1, 7], [8, 5, 2, 6, 3, 0, 7, 4, 1], [1, 7, 4, 2, 8, 5, 0, 6, 3], [4, 1, 7, 5, 2, 8, 3, 0, 6], [7, 4, 1, 8, 5, 2, 6, 3, 0], [0, 2, 1, 6, 8, 7, 3, 5, 4], [1, 0, 2, 7, 6, 8, 4, 3, 5], [2, 1, 0, 8, 7, 6, 5, 4, 3], [3, 5, 4, 0, 2, 1, 6, 8, 7], [4, 3, 5, 1, 0, 2, 7, 6, 8], [5, 4, 3, 2, 1, 0, 8, 7, 6], [6, 8, 7, 3, 5, 4, 0, 2, 1], [7, 6, 8, 4, 3, 5, 1, 0, 2], [8, 7, 6, 5, 4, 3, 2, 1, 0], [0, 3, 6, 2, 5, 8, 1, 4, 7], [6, 0, 3, 8, 2, 5, 7, 1, 4], [3, 6, 0, 5, 8, 2, 4, 7, 1], [1, 4, 7, 0, 3, 6, 2, 5, 8], [7, 1, 4, 6, 0, 3, 8, 2, 5], [4, 7, 1, 3, 6, 0, 5, 8, 2], [2, 5, 8, 1, 4, 7, 0, 3, 6], [8, 2, 5, 7, 1, 4, 6, 0, 3], [5, 8, 2, 4, 7, 1, 3, 6, 0], [0, 2, 1, 3, 5, 4, 6, 8, 7], [1, 0, 2, 4, 3, 5, 7, 6, 8], [2, 1, 0, 5, 4, 3, 8, 7, 6], [6, 8, 7, 0, 2, 1, 3, 5, 4], [7, 6, 8, 1, 0, 2, 4, 3, 5], [8, 7, 6, 2, 1, 0, 5, 4, 3], [3, 5, 4, 6, 8, 7, 0, 2, 1], [4, 3, 5, 7, 6, 8, 1, 0, 2], [5, 4, 3, 8, 7, 6, 2, 1, 0], [0, 1, 2, 6, 7, 8, 3, 4, 5], [2, 0, 1, 8, 6, 7, 5, 3, 4], [1, 2, 0, 7, 8, 6, 4, 5, 3], [3, 4, 5, 0, 1, 2, 6, 7, 8], [5, 3, 4, 2, 0, 1, 8, 6, 7], [4, 5, 3, 1, 2, 0, 7, 8, 6], [6, 7, 8, 3, 4, 5, 0, 1, 2], [8, 6, 7, 5, 3, 4, 2, 0, 1], [7, 8, 6, 4, 5, 3, 1, 2, 0], [0, 3, 6, 1, 4, 7, 2, 5, 8], [6, 0, 3, 7, 1, 4, 8, 2, 5], [3, 6, 0, 4, 7, 1, 5, 8, 2], [2, 5, 8, 0, 3, 6, 1, 4, 7], [8, 2, 5, 6, 0, 3, 7, 1, 4], [5, 8, 2, 3, 6, 0, 4, 7, 1], [1, 4, 7, 2, 5, 8, 0, 3, 6], [7, 1, 4, 8, 2, 5, 6, 0, 3], [4, 7, 1, 5, 8, 2, 3, 6, 0], [0, 6, 3, 2, 8, 5, 1, 7, 4], [3, 0, 6, 5, 2, 8, 4, 1, 7], [6, 3, 0, 8, 5, 2, 7, 4, 1], [1, 7, 4, 0, 6, 3, 2, 8, 5], [4, 1, 7, 3, 0, 6, 5, 2, 8], [7, 4, 1, 6, 3, 0, 8, 5, 2], [2, 8, 5, 1, 7, 4, 0, 6, 3], [5, 2, 8, 4, 1, 7, 3, 0, 6], [8, 5, 2, 7, 4, 1, 6, 3, 0]]
  | _ => []
theorem tab_eq : ∀ n ∈ [1, 2, 3], tabL n = (allW n).map fun m => (List.range (n * n)).map (srcW n m) := by decide +kernel
/-- a carpet's figures as one number -/
def codeW : List Nat → Nat
  | [] => 0
  | d :: r => d + 32 * codeW r
theorem codeW_inj : ∀ {a b : List Nat}, a.length = b.length → (∀ d ∈ a, d < 32) → (∀ d ∈ b, d < 32) → codeW a = codeW b → a = b
  | [], [], _, _, _, _ => rfl
  | [], _ :: _, h, _, _, _ => by cases h
  | _ :: _, [], h, _, _, _ => by cases h
  | x :: a, y :: b, h, ha, hb, e => by
    have h1 := ha x List.mem_cons_self
    have h2 := hb y List.mem_cons_self
    unfold codeW at e
    have e1 : x = y := by omega
    have e2 : codeW a = codeW b := by omega
    rw [e1, codeW_inj (by simpa using h) (fun d hd => ha d (List.mem_cons_of_mem _ hd)) (fun d hd => hb d (List.mem_cons_of_mem _ hd)) e2]
def minC (n : Nat) (w : List Nat) : Bool := (tabL n).all fun tb => decide (codeW w ≤ codeW (tb.map fun i => w.getD i 0))
def minL2 (n c : Nat) : List (List Nat) := (lexL c (n * n)).filter (minC n)
def pairs2 : List (Nat × Nat) := ((List.range 26).map fun k => (1, k + 1)) ++ [(2, 1), (2, 2), (2, 3), (2, 4), (3, 1), (3, 2)]
theorem cnt_all : ∀ q ∈ pairs2, (minL2 q.1 q.2).Nodup ∧ (minL2 q.1 q.2).length = cntB q.1 q.2 ∧ (minL2 q.1 q.2).length < 64 := by decide +kernel
end VN
namespace VN
open PySem VS PySem.W
theorem lexL_mem {c : Nat} : ∀ {m : Nat} {w : List Nat}, w.length = m → (∀ d ∈ w, d < c) → w ∈ lexL c m
  | 0, w, h, _ => by
    rw [List.length_eq_zero_iff.mp h]
    exact List.mem_singleton.mpr rfl
  | m + 1, w, h, hd => by
    rcases List.eq_nil_or_concat w with e | ⟨v, x, e⟩
    · rw [e] at h; cases h
    · rw [List.concat_eq_append] at e
      subst e
      rw [List.length_append] at h
      rw [lexL, List.mem_flatMap]
      exact ⟨v, lexL_mem (by simpa using h) fun d hv => hd d (List.mem_append_left _ hv), List.mem_map.mpr ⟨x, List.mem_range.mpr (hd x (by simp)), rfl⟩⟩
theorem minC_iff {n : Nat} (hn : n = 1 ∨ n = 2 ∨ n = 3) {w : List Nat} : minC n w = true ↔ ∀ m : Mv, m.ok n → codeW w ≤ codeW (movW n m w) := by
  have e : tabL n = (allW n).map fun m => (List.range (n * n)).map (srcW n m) := tab_eq n (by rcases hn with e | e | e <;> rw [e] <;> decide)
  unfold minC
  rw [e, List.all_map, List.all_eq_true]
  have hm : ∀ m : Mv, ((List.range (n * n)).map (srcW n m)).map (fun i => w.getD i 0) = movW n m w := fun m => by
    unfold movW
    rw [List.map_map]
    rfl
  refine ⟨fun h m ok => ?_, fun h m hm2 => ?_⟩
  · have := h m (mem_allW.mpr ok)
    simp only [Function.comp, decide_eq_true_eq] at this
    rw [hm] at this
    exact this
  · simp only [Function.comp, decide_eq_true_eq]
    rw [hm]
    exact h m (mem_allW.mp hm2)
theorem least_num {α : Type} (f : α → Nat) : ∀ l : List α, l ≠ [] → ∃ a ∈ l, ∀ b ∈ l, f a ≤ f b
  | [], h => absurd rfl h
  | [a], _ => ⟨a, by simp, fun b hb => by rw [List.mem_singleton.mp hb]; exact Nat.le_refl _⟩
  | a :: b :: l, _ => by
    obtain ⟨x, hx, h⟩ := least_num f (b :: l) (by simp)
    by_cases c : f a ≤ f x
    · refine ⟨a, List.mem_cons_self, fun y hy => ?_⟩
      rcases List.mem_cons.mp hy with e | hy
      · rw [e]; exact Nat.le_refl _
      · exact Nat.le_trans c (h y hy)
    · refine ⟨x, List.mem_cons_of_mem _ hx, fun y hy => ?_⟩
      rcases List.mem_cons.mp hy with e | hy
      · rw [e]; omega
      · exact h y hy
/-- two ways to take one of each orbit: as many -/
theorem as_many {α : Type} {L M : List α} {R : α → α → Prop} (nd : L.Nodup) (nm : M.Nodup) (sy : ∀ a b, R a b → R b a) (tr : ∀ a b c, R a b → R b c → R a c)
    (uL : ∀ a ∈ L, ∀ b ∈ L, R a b → a = b) (hLM : ∀ a ∈ L, ∃ b ∈ M, R a b) : L.length ≤ M.length := by
  classical
  have ⟨f, hf⟩ : ∃ f : α → α, ∀ a ∈ L, f a ∈ M ∧ R a (f a) := ⟨fun a => if h : a ∈ L then Classical.choose (hLM a h) else a, fun a ha => by
    show (if h : a ∈ L then Classical.choose (hLM a h) else a) ∈ M ∧ R a (if h : a ∈ L then Classical.choose (hLM a h) else a)
    rw [dif_pos ha]
    exact Classical.choose_spec (hLM a ha)⟩
  have n2 : (L.map f).Nodup := by
    refine List.pairwise_map.mpr (nd.imp_of_mem fun {a b} ha hb hne e => hne (uL a ha b hb ?_))
    have h1 := (hf a ha).2
    rw [e] at h1
    exact tr _ _ _ h1 (sy _ _ (hf b hb).2)
  have := n2.length_le_of_subset fun x hx => by
    obtain ⟨a, ha, rfl⟩ := List.mem_map.mp hx
    exact (hf a ha).1
  rwa [List.length_map] at this
theorem forms_cnt {n c : Nat} {L : List (List Nat)} (h : FormsOk n c L) (hp : (n, c) ∈ pairs2) (hn : n = 1 ∨ n = 2 ∨ n = 3) (hc : c ≤ 26) : L.length = cntB n c ∧ L.length < 64 := by
  have hn0 : 0 < n := by omega
  have hn' : (0 : Int) < n := by omega
  obtain ⟨z1, z2, z3⟩ := cnt_all _ hp
  have z1 : (minL2 n c).Nodup := z1
  have z2 : (minL2 n c).length = cntB n c := z2
  have z3 : (minL2 n c).length < 64 := z3
  have mem : ∀ w, w ∈ minL2 n c ↔ Vl n c w ∧ ∀ m : Mv, m.ok n → codeW w ≤ codeW (movW n m w) := fun w => by
    unfold minL2
    rw [List.mem_filter, minC_iff hn]
    exact ⟨fun ⟨h1, h2⟩ => ⟨⟨(lexL_len h1).1, (lexL_len h1).2⟩, h2⟩, fun ⟨h1, h2⟩ => ⟨lexL_mem h1.len h1.lt, h2⟩⟩
  have sy : ∀ a b : List Nat, (a.length = n * n ∧ ∃ m : Mv, m.ok n ∧ movW n m a = b) → (b.length = n * n ∧ ∃ m : Mv, m.ok n ∧ movW n m b = a) := fun a b ⟨ha, m, hm, e⟩ => by
    subst e
    exact ⟨movW_len n m a, inv n m, inv_ok hn' m, movW_back hn0 hm ha⟩
  have tr : ∀ a b c : List Nat, (a.length = n * n ∧ ∃ m : Mv, m.ok n ∧ movW n m a = b) → (b.length = n * n ∧ ∃ m : Mv, m.ok n ∧ movW n m b = c) → (a.length = n * n ∧ ∃ m : Mv, m.ok n ∧ movW n m a = c) := fun a b c ⟨ha, m, hm, e⟩ ⟨_, k, hk, e2⟩ => by
    subst e e2
    exact ⟨ha, thn n m k, thn_ok hn' m k, movW_thn hn0 hm hk⟩
  have uL : ∀ a ∈ L, ∀ b ∈ L, (a.length = n * n ∧ ∃ m : Mv, m.ok n ∧ movW n m a = b) → a = b := fun a ha b hb ⟨la, m, hm, e⟩ => by
    obtain ⟨va, xa⟩ := (h.mem a).mp ha
    obtain ⟨vb, xb⟩ := (h.mem b).mp hb
    have h1 := xa m hm
    rw [e] at h1
    have h2 := xb (inv n m) (inv_ok hn' m)
    rw [← e, movW_back hn0 hm la, e] at h2
    exact dW_inj va.len vb.len (leD_anti (n := 50) (m := 50) (ok_dW (by omega) va) (ok_dW (by omega) vb) alike_cp (lt_le h1) (lt_le h2)).symm.symm
  have uM : ∀ a ∈ minL2 n c, ∀ b ∈ minL2 n c, (a.length = n * n ∧ ∃ m : Mv, m.ok n ∧ movW n m a = b) → a = b := fun a ha b hb ⟨la, m, hm, e⟩ => by
    obtain ⟨va, xa⟩ := (mem a).mp ha
    obtain ⟨vb, xb⟩ := (mem b).mp hb
    have h1 := xa m hm
    rw [e] at h1
    have h2 := xb (inv n m) (inv_ok hn' m)
    rw [← e, movW_back hn0 hm la, e] at h2
    exact codeW_inj (va.len.trans vb.len.symm) (fun d hd => by have := va.lt d hd; omega) (fun d hd => by have := vb.lt d hd; omega) (Nat.le_antisymm h1 h2)
  have hLM : ∀ a ∈ L, ∃ b ∈ minL2 n c, (a.length = n * n ∧ ∃ m : Mv, m.ok n ∧ movW n m a = b) := fun a ha => by
    have va := ((h.mem a).mp ha).1
    obtain ⟨m, hm, hl⟩ := least_num (fun m => codeW (movW n m a)) (allW n) (fun e => by
      have := allW_len n
      rw [e, List.length_nil] at this
      rcases hn with q | q | q <;> rw [q] at this <;> omega)
    have hm := mem_allW.mp hm
    refine ⟨movW n m a, (mem _).mpr ⟨movW_vl hn0 m va, fun k hk => ?_⟩, va.len, m, hm, rfl⟩
    rw [← movW_thn hn0 hm hk]
    exact hl _ (mem_allW.mpr (thn_ok hn' m k))
  have hML : ∀ a ∈ minL2 n c, ∃ b ∈ L, (a.length = n * n ∧ ∃ m : Mv, m.ok n ∧ movW n m a = b) := fun a ha => by
    have va := ((mem a).mp ha).1
    obtain ⟨m, hm⟩ := least_ex hn0 (okC_dig (n := n) fun d hd => Nat.lt_of_lt_of_le (va.lt d hd) (by omega))
    refine ⟨movW n m a, (h.mem _).mpr ⟨movW_vl hn0 m va, fun k hk => ?_⟩, va.len, m, hm.1, rfl⟩
    rw [← movW_thn hn0 hm.1 hk, ← dW_mov, ← dW_mov]
    exact hm.2 _ (thn_ok hn' m k)
  have e1 := as_many h.nd z1 sy tr uL hLM
  have e2 := as_many z1 h.nd sy tr uM hML
  omega
/-- what sorted(set(..)) asks of the forms -/
theorem forms_set {n c : Nat} (hn : 0 < n) (hc : c ≤ 26) {L : List (List Nat)} (h : FormsOk n c L) (hl : L.length < 64) {Q : RV → Prop} (q : Q (.fr (.lst (L.map (dW n))))) : opSortSetT (.lst (L.map (dW n))) Q := by
  have e1 : L.map (dW n) = (L.map fun w => (List.range n).map fun r => rowS n (dig n w (r : Nat))).map tD := by
    rw [List.map_map]
    refine List.map_congr_left fun w _ => ?_
    show cpD n (dig n w) = .tup _
    rw [List.map_map]
    rfl
  refine ⟨_, e1, ?_, by rw [List.length_map]; exact hl, okL_all fun x hx => ?_, fun x hx y hy => ?_, .inl fun x hx => ?_, h.srt, q⟩
  · refine List.pairwise_map.mpr (h.nd.imp_of_mem fun {a b} ha hb hne e => hne ?_)
    refine dW_inj ((h.mem a).mp ha).1.len ((h.mem b).mp hb).1.len ?_
    have : tD ((List.range n).map fun r => rowS n (dig n a (r : Nat))) = tD ((List.range n).map fun r => rowS n (dig n b (r : Nat))) := by rw [e]
    have k : ∀ w : List Nat, tD ((List.range n).map fun r => rowS n (dig n w (r : Nat))) = dW n w := fun w => by
      show D.tup _ = D.tup _
      rw [List.map_map]
      rfl
    rw [k, k] at this
    exact this
  · obtain ⟨y, hy, rfl⟩ := List.mem_map.mp hx
    exact ok_dW (by omega) ((h.mem y).mp hy).1
  · obtain ⟨a, _, rfl⟩ := List.mem_map.mp hx
    obtain ⟨b, _, rfl⟩ := List.mem_map.mp hy
    exact alike_cp
  · obtain ⟨d, hd, rfl⟩ := List.mem_map.mp hx
    obtain ⟨y, hy, rfl⟩ := List.mem_map.mp hd
    show ∃ x r, D.toPy (.tup ((List.range n).map fun r => D.str (rowS n (dig n y (r : Nat))))) = _
    obtain ⟨m, rfl⟩ : ∃ m, n = m + 1 := ⟨n - 1, by omega⟩
    rw [List.range_succ_eq_map]
    exact ⟨_, _, rfl⟩
end VN
namespace VN
open PySem VS PySem.W
/-- a least form moved to its least is itself -/
theorem form_self {n c : Nat} (hn : 0 < n) (hc : c ≤ 26) {L : List (List Nat)} (h : FormsOk n c L) {w : List Nat} (hw : w ∈ L) {m : Mv} (hm : Least n (dig n w) m) : cpD n (movF n m (dig n w)) = dW n w := by
  have hn' : (0 : Int) < n := by omega
  obtain ⟨v, l⟩ := (h.mem w).mp hw
  have h1 := l m hm.1
  rw [← dW_mov] at h1
  have h2 := hm.2 stayM (stayM_ok hn')
  rw [mov_stay_cp hn] at h2
  rw [dW_mov] at h1 h2 ⊢
  have v2 := movW_vl hn m v
  exact leD_anti (n := 50) (m := 50) (ok_dW (by omega) v2) (ok_dW (by omega) v) alike_cp (lt_le h2) (lt_le h1)
theorem in_forms {n c : Nat} (hn : 0 < n) (hc : c ≤ 26) {L : List (List Nat)} (h : FormsOk n c L) {w : List Nat} (hw : Vl n c w) {m : Mv} (hm : Least n (dig n w) m) {Q : RV → Prop} (q : Q (.val (.bl false))) : opIn true (cpD n (movF n m (dig n w))) (.lst (L.map (dW n))) Q := by
  obtain ⟨j, _, hj⟩ := form_at hn h hw hm
  have e : decide (cpD n (movF n m (dig n w)) ∈ L.map (dW n)) = true := decide_eq_true (List.mem_of_getElem? hj)
  rw [dW_mov] at e ⊢
  refine ⟨ok_dW (by omega) (movW_vl hn m hw), okL_all fun x hx => ?_, ?_⟩
  · obtain ⟨y, hy, rfl⟩ := List.mem_map.mp hx
    exact ok_dW (by omega) ((h.mem y).mp hy).1
  · rw [e]; exact q
theorem len_dW {n : Nat} {w : List Nat} (hn : n ≤ 100) {Q : RV → Prop} (q : Q (.val (.int (n : Nat)))) : opLen [dW n w] Q := len_cp (n := n) (f := dig n w) q
theorem cut_memD {ds : List D} {lo hi : Option Int} {d : D} (h : d ∈ cutD ds lo hi) : d ∈ ds := by
  unfold cutD at h
  exact List.mem_of_mem_drop (List.mem_of_mem_take h)
theorem pairs2_1 {k : Nat} (h : k < 26) : (1, k + 1) ∈ pairs2 := List.mem_append_left _ (List.mem_map.mpr ⟨k, List.mem_range.mpr h, rfl⟩)
end VN


namespace My_carpetkin_k84_all_forms
open PySem PySem.Spec L2 VS VN
theorem isO_opLen {x0 x1} (h : VS.opLen x0 x1) : VS.opLen x0 x1 := h
theorem isO_opIn {x0 x1 x2 x3} (h : VS.opIn x0 x1 x2 x3) : VS.opIn x0 x1 x2 x3 := h
theorem isO_opIndex {x0 x1 x2} (h : VS.opIndex x0 x1 x2) : VS.opIndex x0 x1 x2 := h
theorem isO_opEq {x0 x1 x2} (h : VS.opEq x0 x1 x2) : VS.opEq x0 x1 x2 := h
theorem isO_opJoin {x0 x1 x2} (h : VS.opJoin x0 x1 x2) : VS.opJoin x0 x1 x2 := h
theorem isO_opSorted {x0 x1} (h : VS.opSorted x0 x1) : VS.opSorted x0 x1 := h
theorem isO_opNe {x0 x1 x2} (h : VS.opNe x0 x1 x2) : VS.opNe x0 x1 x2 := h
theorem isO_opAdd {x0 x1 x2} (h : VS.opAdd x0 x1 x2) : VS.opAdd x0 x1 x2 := h
theorem isO_opIdx {x0 x1 x2} (h : VS.opIdx x0 x1 x2) : VS.opIdx x0 x1 x2 := h
theorem isO_opMul {x0 x1 x2} (h : VS.opMul x0 x1 x2) : VS.opMul x0 x1 x2 := h
local macro_rules | `(tactic| decreasing_trivial_pre_omega) => `(tactic| ((repeat (first | with_reducible apply Exists.intro | (((with_reducible apply And.intro); (focus (first | ((with_reducible apply VS.set_i); (first | (dsimp only [VS.lend_nil, VS.lend_cons, VS.lendS_own, VS.lendS_val, VS.lendS_bor, VS.lendS_emp, VS.back_nil, VS.back_cons, VS.backS_bor, VS.backS_own, VS.backS_emp, VS.backS_int, VS.backS_str, VS.backS_bl, VS.backS_non, VS.backS_tup, VS.backS_lst, VS.unl, VS.lockE, VS.wipeE, VS.asgN, VS.fz, VS.fzs, VS.argsE, VS.rd, List.set_cons_zero, List.set_cons_succ, List.getElem?_cons_zero, List.getElem?_cons_succ]; done) | (dsimp only [VS.lend_nil, VS.lend_cons, VS.lendS_own, VS.lendS_val, VS.lendS_bor, VS.lendS_emp, VS.back_nil, VS.back_cons, VS.backS_bor, VS.backS_own, VS.backS_emp, VS.backS_int, VS.backS_str, VS.backS_bl, VS.backS_non, VS.backS_tup, VS.backS_lst, VS.unl, VS.lockE, VS.wipeE, VS.asgN, VS.fz, VS.fzs, VS.argsE, VS.rd, List.set_cons_zero, List.set_cons_succ, List.getElem?_cons_zero, List.getElem?_cons_succ]; rfl) | rfl)) | ((with_reducible apply VS.back_i); (first | (dsimp only [VS.lend_nil, VS.lend_cons, VS.lendS_own, VS.lendS_val, VS.lendS_bor, VS.lendS_emp, VS.back_nil, VS.back_cons, VS.backS_bor, VS.backS_own, VS.backS_emp, VS.backS_int, VS.backS_str, VS.backS_bl, VS.backS_non, VS.backS_tup, VS.backS_lst, VS.unl, VS.lockE, VS.wipeE, VS.asgN, VS.fz, VS.fzs, VS.argsE, VS.rd, List.set_cons_zero, List.set_cons_succ, List.getElem?_cons_zero, List.getElem?_cons_succ]; done) | (dsimp only [VS.lend_nil, VS.lend_cons, VS.lendS_own, VS.lendS_val, VS.lendS_bor, VS.lendS_emp, VS.back_nil, VS.back_cons, VS.backS_bor, VS.backS_own, VS.backS_emp, VS.backS_int, VS.backS_str, VS.backS_bl, VS.backS_non, VS.backS_tup, VS.backS_lst, VS.unl, VS.lockE, VS.wipeE, VS.asgN, VS.fz, VS.fzs, VS.argsE, VS.rd, List.set_cons_zero, List.set_cons_succ, List.getElem?_cons_zero, List.getElem?_cons_succ]; rfl) | rfl)) | ((with_reducible apply VS.asg_i); (first | (dsimp only [VS.lend_nil, VS.lend_cons, VS.lendS_own, VS.lendS_val, VS.lendS_bor, VS.lendS_emp, VS.back_nil, VS.back_cons, VS.backS_bor, VS.backS_own, VS.backS_emp, VS.backS_int, VS.backS_str, VS.backS_bl, VS.backS_non, VS.backS_tup, VS.backS_lst, VS.unl, VS.lockE, VS.wipeE, VS.asgN, VS.fz, VS.fzs, VS.argsE, VS.rd, List.set_cons_zero, List.set_cons_succ, List.getElem?_cons_zero, List.getElem?_cons_succ]; done) | (dsimp only [VS.lend_nil, VS.lend_cons, VS.lendS_own, VS.lendS_val, VS.lendS_bor, VS.lendS_emp, VS.back_nil, VS.back_cons, VS.backS_bor, VS.backS_own, VS.backS_emp, VS.backS_int, VS.backS_str, VS.backS_bl, VS.backS_non, VS.backS_tup, VS.backS_lst, VS.unl, VS.lockE, VS.wipeE, VS.asgN, VS.fz, VS.fzs, VS.argsE, VS.rd, List.set_cons_zero, List.set_cons_succ, List.getElem?_cons_zero, List.getElem?_cons_succ]; rfl) | rfl)) | ((with_reducible apply VS.fz_i); (first | (dsimp only [VS.lend_nil, VS.lend_cons, VS.lendS_own, VS.lendS_val, VS.lendS_bor, VS.lendS_emp, VS.back_nil, VS.back_cons, VS.backS_bor, VS.backS_own, VS.backS_emp, VS.backS_int, VS.backS_str, VS.backS_bl, VS.backS_non, VS.backS_tup, VS.backS_lst, VS.unl, VS.lockE, VS.wipeE, VS.asgN, VS.fz, VS.fzs, VS.argsE, VS.rd, List.set_cons_zero, List.set_cons_succ, List.getElem?_cons_zero, List.getElem?_cons_succ]; done) | (dsimp only [VS.lend_nil, VS.lend_cons, VS.lendS_own, VS.lendS_val, VS.lendS_bor, VS.lendS_emp, VS.back_nil, VS.back_cons, VS.backS_bor, VS.backS_own, VS.backS_emp, VS.backS_int, VS.backS_str, VS.backS_bl, VS.backS_non, VS.backS_tup, VS.backS_lst, VS.unl, VS.lockE, VS.wipeE, VS.asgN, VS.fz, VS.fzs, VS.argsE, VS.rd, List.set_cons_zero, List.set_cons_succ, List.getElem?_cons_zero, List.getElem?_cons_succ]; rfl) | rfl)) | ((with_reducible apply VS.fzs_i); (first | (dsimp only [VS.lend_nil, VS.lend_cons, VS.lendS_own, VS.lendS_val, VS.lendS_bor, VS.lendS_emp, VS.back_nil, VS.back_cons, VS.backS_bor, VS.backS_own, VS.backS_emp, VS.backS_int, VS.backS_str, VS.backS_bl, VS.backS_non, VS.backS_tup, VS.backS_lst, VS.unl, VS.lockE, VS.wipeE, VS.asgN, VS.fz, VS.fzs, VS.argsE, VS.rd, List.set_cons_zero, List.set_cons_succ, List.getElem?_cons_zero, List.getElem?_cons_succ]; done) | (dsimp only [VS.lend_nil, VS.lend_cons, VS.lendS_own, VS.lendS_val, VS.lendS_bor, VS.lendS_emp, VS.back_nil, VS.back_cons, VS.backS_bor, VS.backS_own, VS.backS_emp, VS.backS_int, VS.backS_str, VS.backS_bl, VS.backS_non, VS.backS_tup, VS.backS_lst, VS.unl, VS.lockE, VS.wipeE, VS.asgN, VS.fz, VS.fzs, VS.argsE, VS.rd, List.set_cons_zero, List.set_cons_succ, List.getElem?_cons_zero, List.getElem?_cons_succ]; rfl) | rfl)) | ((with_reducible apply VS.args_i); (first | (dsimp only [VS.lend_nil, VS.lend_cons, VS.lendS_own, VS.lendS_val, VS.lendS_bor, VS.lendS_emp, VS.back_nil, VS.back_cons, VS.backS_bor, VS.backS_own, VS.backS_emp, VS.backS_int, VS.backS_str, VS.backS_bl, VS.backS_non, VS.backS_tup, VS.backS_lst, VS.unl, VS.lockE, VS.wipeE, VS.asgN, VS.fz, VS.fzs, VS.argsE, VS.rd, List.set_cons_zero, List.set_cons_succ, List.getElem?_cons_zero, List.getElem?_cons_succ]; done) | (dsimp only [VS.lend_nil, VS.lend_cons, VS.lendS_own, VS.lendS_val, VS.lendS_bor, VS.lendS_emp, VS.back_nil, VS.back_cons, VS.backS_bor, VS.backS_own, VS.backS_emp, VS.backS_int, VS.backS_str, VS.backS_bl, VS.backS_non, VS.backS_tup, VS.backS_lst, VS.unl, VS.lockE, VS.wipeE, VS.asgN, VS.fz, VS.fzs, VS.argsE, VS.rd, List.set_cons_zero, List.set_cons_succ, List.getElem?_cons_zero, List.getElem?_cons_succ]; rfl) | rfl)) | with_reducible exact VN.two_rot | with_reducible exact VN.two_nil | with_reducible exact VN.two_rev | with_reducible exact VN.two_snoc | with_reducible exact VN.mv_two | with_reducible exact VN.mv_one | with_reducible exact VN.cm_one | with_reducible exact VN.cm_stay | with_reducible exact VN.three_P | with_reducible exact VN.three_rev | ((with_reducible apply VS.okd_i); (repeat (first | exact VN.ok_w | exact VS.ok_int | exact VS.okL_nil | refine VS.okL_cons ?_ ?_ | exact VN.ok_M | exact VN.okL_M | exact VN.okL_Mr | exact VN.okL_P | exact VN.okL_pair (by assumption) | exact VN.ok_rc (by assumption) | exact VN.ok_cp (by assumption) | exact VN.ok_cp (VN.okC_mov (by assumption)) | exact VN.ok_cp (VN.okC_mov (VN.okC_mov (by assumption))) | refine VS.ok_tup ?_ | refine VS.ok_lst ?_ | exact VS.ok_non | assumption | exact VS.ok_str (by decide +kernel) | exact VS.ok_str (by assumption))); done) | ((with_reducible apply VS.okl_i); (repeat (first | exact VN.ok_w | exact VS.ok_int | exact VS.okL_nil | refine VS.okL_cons ?_ ?_ | exact VN.ok_M | exact VN.okL_M | exact VN.okL_Mr | exact VN.okL_P | exact VN.okL_pair (by assumption) | exact VN.ok_rc (by assumption) | exact VN.ok_cp (by assumption) | exact VN.ok_cp (VN.okC_mov (by assumption)) | exact VN.ok_cp (VN.okC_mov (VN.okC_mov (by assumption))) | refine VS.ok_tup ?_ | refine VS.ok_lst ?_ | exact VS.ok_non | assumption | exact VS.ok_str (by decide +kernel) | exact VS.ok_str (by assumption))); done) | with_reducible exact VN.sg_mul _ _ | with_reducible exact VN.sg_inv _ | with_reducible assumption | exact VN.sg_get | exact VN.goes_get | rfl | ((with_reducible apply VN.ok_i); first | assumption | exact VN.inv_ok (by assumption) _ | exact VN.thn_ok (by assumption) _ _ | exact VN.nMv_ok (by assumption) | exact VN.mvA_ok (by assumption) _ | exact VN.stayM_ok (by assumption)) | ((with_reducible apply VN.okC_i); first | assumption | exact VN.okC_mov (by assumption) | exact VN.okC_mov (VN.okC_mov (by assumption)) | exact VN.okC_mov (VN.okC_mov (VN.okC_mov (by assumption)))) | exact True.intro | omega | decide | exact VS.mul_r (by decide) (by decide) | exact VS.mul_l (by decide) (by decide) | exact VS.len_le rfl | exact VS.len_lt rfl | exact VS.pow_k (by decide) (by decide) (by decide) | exact VN.mul_sA | exact VN.mul_sB | exact VN.mul_sC | exact VN.mul_sD | decide +kernel)))) | (first | ((with_reducible refine VS.ite_it ?_ ?_); (first | omega | exact VS.int_un (by omega) | exact VS.int_un (by simp only [List.length_cons, List.length_nil]; omega) | with_reducible rfl | ((show (VS.D.int _).un = (VS.D.int _).un); rfl) | decide +kernel | assumption)) | ((with_reducible refine VS.ite_if ?_ ?_); (first | omega | exact VN.nn_tup | exact VN.nn_lst | exact VN.nn_int | exact VN.nn_str | exact VN.cp_non | exact VS.int_nun (by omega) | exact VS.int_nun (by simp only [List.length_cons, List.length_nil]; omega) | decide +kernel | assumption)) | ((with_reducible refine VS.ite_jt ?_ ?_); (first | omega | exact VN.nn_tup | exact VN.nn_lst | exact VN.nn_int | exact VN.nn_str | exact VN.cp_non | exact VS.int_nun (by omega) | exact VS.int_nun (by simp only [List.length_cons, List.length_nil]; omega) | decide +kernel | assumption)) | ((with_reducible refine VS.ite_jf ?_ ?_); (first | omega | exact VS.int_un (by omega) | exact VS.int_un (by simp only [List.length_cons, List.length_nil]; omega) | with_reducible rfl | ((show (VS.D.int _).un = (VS.D.int _).un); rfl) | decide +kernel | assumption)) | ((with_reducible refine VS.ite_td ?_ ?_); (first | omega | exact VS.int_un (by omega) | exact VS.int_un (by simp only [List.length_cons, List.length_nil]; omega) | with_reducible rfl | ((show (VS.D.int _).un = (VS.D.int _).un); rfl) | decide +kernel | assumption)) | ((with_reducible refine VS.ite_fd ?_ ?_); (first | omega | exact VN.nn_tup | exact VN.nn_lst | exact VN.nn_int | exact VN.nn_str | exact VN.cp_non | exact VS.int_nun (by omega) | exact VS.int_nun (by simp only [List.length_cons, List.length_nil]; omega) | decide +kernel | assumption)) | ((with_reducible refine VS.ite_tn ?_ ?_); (first | omega | exact VN.nn_tup | exact VN.nn_lst | exact VN.nn_int | exact VN.nn_str | exact VN.cp_non | exact VS.int_nun (by omega) | exact VS.int_nun (by simp only [List.length_cons, List.length_nil]; omega) | decide +kernel | assumption)) | ((with_reducible refine VS.ite_fn ?_ ?_); (first | omega | exact VS.int_un (by omega) | exact VS.int_un (by simp only [List.length_cons, List.length_nil]; omega) | with_reducible rfl | ((show (VS.D.int _).un = (VS.D.int _).un); rfl) | decide +kernel | assumption))) | ((fail_if_success (first | with_reducible refine VS.ite_d ?_ ?_ | with_reducible refine VS.ite_n ?_ ?_ | with_reducible refine VS.ite_i ?_ ?_ | with_reducible refine VS.ite_ni ?_ ?_)); (first | (first | with_reducible refine VN.forms_set (by omega) (by omega) (by assumption) (by omega) ?_ | ((with_reducible refine isO_opLen ?_); first | with_reducible refine VN.len_dW (by omega) ?_ | with_reducible refine VN.len_str (by omega) ?_ | with_reducible refine VN.len_rc ?_ | with_reducible refine VN.len_ls (by assumption) ?_ | with_reducible refine VN.len_ints ?_ | with_reducible refine VN.len_cp ?_ | with_reducible refine VN.len_row (by omega) ?_) | ((with_reducible refine isO_opIn ?_); first | with_reducible refine VN.in_forms (by omega) (by omega) (by assumption) (by assumption) (by assumption) ?_ | with_reducible refine VN.in_kC (by assumption) ?_ | with_reducible refine VN.in_cut (by omega) (by omega) ?_ | with_reducible refine VN.in_listM ?_ | with_reducible refine VN.in_kvP ?_ | with_reducible refine VN.in_listP ?_ | with_reducible refine VN.in_kvM ?_) | ((with_reducible refine isO_opIndex ?_); first | with_reducible refine VN.idx_formsX (by assumption) (by assumption) (by omega) ?_ | with_reducible refine VN.way_index ?_) | ((with_reducible refine isO_opEq ?_); first | with_reducible refine VN.eq_consN (by assumption) ?_ | with_reducible refine VN.eq_lsame (by assumption) ?_) | ((with_reducible refine isO_opJoin ?_); first | with_reducible refine VN.join_all (by omega) ?_ | with_reducible refine VN.join_allL (by omega) ?_ | with_reducible refine VN.join_by (by assumption) ?_ | with_reducible refine VN.opJoin_row (by omega) ?_) | with_reducible refine VN.min_ws (by assumption) (by omega) (by omega) ?_ | ((with_reducible refine isO_opSorted ?_); first | with_reducible refine VN.forms_sort (by assumption) (by omega) (by omega) (by omega) ?_ | with_reducible refine VN.sort_allT (by assumption) (by omega) ?_ | with_reducible refine VN.sorted_kvP ?_ | with_reducible refine VN.sorted_P ?_ | with_reducible refine VN.sorted_kvM ?_ | with_reducible refine VN.sorted_M ?_) | with_reducible refine VN.sort_set2 (by omega) (by assumption) ?_ | with_reducible refine VN.isnt_exc ?_ | ((with_reducible refine isO_opNe ?_); first | with_reducible refine VN.ne_lok (by assumption) ?_ | with_reducible refine VN.ne_cp (by assumption) (by assumption) (by assumption) ?_ | with_reducible refine VN.ne_cc (by assumption) (by assumption) ?_ | with_reducible refine VN.ne_rc (by assumption) (by assumption) ?_) | ((with_reducible refine isO_opAdd ?_); first | with_reducible refine VN.opAdd_cp (by omega) ?_ | with_reducible refine VN.opAdd_upd (by omega) ?_) | ((with_reducible refine isO_opIdx ?_); first | with_reducible refine VN.idx_hyp (by assumption) ?_ | with_reducible refine VN.idx_34 ?_ | with_reducible refine VN.idx_abcde ?_ | with_reducible refine VN.idx_five ?_ | with_reducible refine VN.idx_rc (by first | omega | exact Int.emod_nonneg _ (by omega)) (by first | omega | exact Int.emod_lt_of_pos _ (by omega)) ?_ | with_reducible refine VN.idx_mvB (by omega) ?_ | with_reducible refine VN.idx_abcD (by first | omega | exact Int.emod_nonneg _ (by omega)) (by first | omega | exact Int.lt_of_lt_of_le (Int.emod_lt_of_pos _ (by omega)) (by omega)) ?_ | with_reducible refine VN.idx_ls (by assumption) (by first | omega | exact Int.emod_nonneg _ (by omega)) (by first | omega | exact Int.emod_lt_of_pos _ (by omega)) ?_ | with_reducible refine VN.idx_ints (by first | omega | exact Int.emod_nonneg _ (by omega)) (by first | omega | exact Int.emod_lt_of_pos _ (by omega)) ?_ | with_reducible refine VN.idx_let (by assumption) (by first | omega | exact Int.emod_nonneg _ (by omega)) (by first | omega | exact Int.emod_lt_of_pos _ (by omega)) ?_ | with_reducible refine VN.idx_disp ?_ | with_reducible refine VN.idx_abc (by first | omega | exact Int.emod_nonneg _ (by omega)) (by first | omega | exact Int.lt_of_lt_of_le (Int.emod_lt_of_pos _ (by omega)) (by omega)) ?_ | with_reducible refine VN.idx_cp (by first | omega | exact Int.emod_nonneg _ (by omega)) (by first | omega | exact Int.lt_of_lt_of_le (Int.emod_lt_of_pos _ (by omega)) (by omega)) ?_ | with_reducible refine VN.idx_row (by first | omega | exact Int.emod_nonneg _ (by omega)) (by first | omega | exact Int.lt_of_lt_of_le (Int.emod_lt_of_pos _ (by omega)) (by omega)) (by omega) ?_) | with_reducible refine VN.divmod_k (by omega) (by omega) ?_ | with_reducible refine VN.min2_any (by omega) (by omega) ?_ | with_reducible refine VS.ite_f (VN.nbs _) ?_ | with_reducible refine VS.opDiv_k (by first | decide | omega) (by first | decide | omega) ?_ | ((with_reducible refine isO_opMul ?_); first | with_reducible refine VS.opMul_r (by first | decide | omega) (by first | decide | omega) ?_ | with_reducible refine VS.opMul_l (by first | decide | omega) (by first | decide | omega) ?_) | with_reducible refine VS.opMod_k (by first | decide | omega) ?_ | refine VS.ite_t rfl ?_ | refine VS.ite_f rfl ?_) | apply Exists.intro | (((apply And.intro); (focus (first | ((with_reducible apply VS.set_i); (first | (dsimp only [VS.lend_nil, VS.lend_cons, VS.lendS_own, VS.lendS_val, VS.lendS_bor, VS.lendS_emp, VS.back_nil, VS.back_cons, VS.backS_bor, VS.backS_own, VS.backS_emp, VS.backS_int, VS.backS_str, VS.backS_bl, VS.backS_non, VS.backS_tup, VS.backS_lst, VS.unl, VS.lockE, VS.wipeE, VS.asgN, VS.fz, VS.fzs, VS.argsE, VS.rd, List.set_cons_zero, List.set_cons_succ, List.getElem?_cons_zero, List.getElem?_cons_succ]; done) | (dsimp only [VS.lend_nil, VS.lend_cons, VS.lendS_own, VS.lendS_val, VS.lendS_bor, VS.lendS_emp, VS.back_nil, VS.back_cons, VS.backS_bor, VS.backS_own, VS.backS_emp, VS.backS_int, VS.backS_str, VS.backS_bl, VS.backS_non, VS.backS_tup, VS.backS_lst, VS.unl, VS.lockE, VS.wipeE, VS.asgN, VS.fz, VS.fzs, VS.argsE, VS.rd, List.set_cons_zero, List.set_cons_succ, List.getElem?_cons_zero, List.getElem?_cons_succ]; rfl) | rfl)) | ((with_reducible apply VS.back_i); (first | (dsimp only [VS.lend_nil, VS.lend_cons, VS.lendS_own, VS.lendS_val, VS.lendS_bor, VS.lendS_emp, VS.back_nil, VS.back_cons, VS.backS_bor, VS.backS_own, VS.backS_emp, VS.backS_int, VS.backS_str, VS.backS_bl, VS.backS_non, VS.backS_tup, VS.backS_lst, VS.unl, VS.lockE, VS.wipeE, VS.asgN, VS.fz, VS.fzs, VS.argsE, VS.rd, List.set_cons_zero, List.set_cons_succ, List.getElem?_cons_zero, List.getElem?_cons_succ]; done) | (dsimp only [VS.lend_nil, VS.lend_cons, VS.lendS_own, VS.lendS_val, VS.lendS_bor, VS.lendS_emp, VS.back_nil, VS.back_cons, VS.backS_bor, VS.backS_own, VS.backS_emp, VS.backS_int, VS.backS_str, VS.backS_bl, VS.backS_non, VS.backS_tup, VS.backS_lst, VS.unl, VS.lockE, VS.wipeE, VS.asgN, VS.fz, VS.fzs, VS.argsE, VS.rd, List.set_cons_zero, List.set_cons_succ, List.getElem?_cons_zero, List.getElem?_cons_succ]; rfl) | rfl)) | ((with_reducible apply VS.asg_i); (first | (dsimp only [VS.lend_nil, VS.lend_cons, VS.lendS_own, VS.lendS_val, VS.lendS_bor, VS.lendS_emp, VS.back_nil, VS.back_cons, VS.backS_bor, VS.backS_own, VS.backS_emp, VS.backS_int, VS.backS_str, VS.backS_bl, VS.backS_non, VS.backS_tup, VS.backS_lst, VS.unl, VS.lockE, VS.wipeE, VS.asgN, VS.fz, VS.fzs, VS.argsE, VS.rd, List.set_cons_zero, List.set_cons_succ, List.getElem?_cons_zero, List.getElem?_cons_succ]; done) | (dsimp only [VS.lend_nil, VS.lend_cons, VS.lendS_own, VS.lendS_val, VS.lendS_bor, VS.lendS_emp, VS.back_nil, VS.back_cons, VS.backS_bor, VS.backS_own, VS.backS_emp, VS.backS_int, VS.backS_str, VS.backS_bl, VS.backS_non, VS.backS_tup, VS.backS_lst, VS.unl, VS.lockE, VS.wipeE, VS.asgN, VS.fz, VS.fzs, VS.argsE, VS.rd, List.set_cons_zero, List.set_cons_succ, List.getElem?_cons_zero, List.getElem?_cons_succ]; rfl) | rfl)) | ((with_reducible apply VS.fz_i); (first | (dsimp only [VS.lend_nil, VS.lend_cons, VS.lendS_own, VS.lendS_val, VS.lendS_bor, VS.lendS_emp, VS.back_nil, VS.back_cons, VS.backS_bor, VS.backS_own, VS.backS_emp, VS.backS_int, VS.backS_str, VS.backS_bl, VS.backS_non, VS.backS_tup, VS.backS_lst, VS.unl, VS.lockE, VS.wipeE, VS.asgN, VS.fz, VS.fzs, VS.argsE, VS.rd, List.set_cons_zero, List.set_cons_succ, List.getElem?_cons_zero, List.getElem?_cons_succ]; done) | (dsimp only [VS.lend_nil, VS.lend_cons, VS.lendS_own, VS.lendS_val, VS.lendS_bor, VS.lendS_emp, VS.back_nil, VS.back_cons, VS.backS_bor, VS.backS_own, VS.backS_emp, VS.backS_int, VS.backS_str, VS.backS_bl, VS.backS_non, VS.backS_tup, VS.backS_lst, VS.unl, VS.lockE, VS.wipeE, VS.asgN, VS.fz, VS.fzs, VS.argsE, VS.rd, List.set_cons_zero, List.set_cons_succ, List.getElem?_cons_zero, List.getElem?_cons_succ]; rfl) | rfl)) | ((with_reducible apply VS.fzs_i); (first | (dsimp only [VS.lend_nil, VS.lend_cons, VS.lendS_own, VS.lendS_val, VS.lendS_bor, VS.lendS_emp, VS.back_nil, VS.back_cons, VS.backS_bor, VS.backS_own, VS.backS_emp, VS.backS_int, VS.backS_str, VS.backS_bl, VS.backS_non, VS.backS_tup, VS.backS_lst, VS.unl, VS.lockE, VS.wipeE, VS.asgN, VS.fz, VS.fzs, VS.argsE, VS.rd, List.set_cons_zero, List.set_cons_succ, List.getElem?_cons_zero, List.getElem?_cons_succ]; done) | (dsimp only [VS.lend_nil, VS.lend_cons, VS.lendS_own, VS.lendS_val, VS.lendS_bor, VS.lendS_emp, VS.back_nil, VS.back_cons, VS.backS_bor, VS.backS_own, VS.backS_emp, VS.backS_int, VS.backS_str, VS.backS_bl, VS.backS_non, VS.backS_tup, VS.backS_lst, VS.unl, VS.lockE, VS.wipeE, VS.asgN, VS.fz, VS.fzs, VS.argsE, VS.rd, List.set_cons_zero, List.set_cons_succ, List.getElem?_cons_zero, List.getElem?_cons_succ]; rfl) | rfl)) | ((with_reducible apply VS.args_i); (first | (dsimp only [VS.lend_nil, VS.lend_cons, VS.lendS_own, VS.lendS_val, VS.lendS_bor, VS.lendS_emp, VS.back_nil, VS.back_cons, VS.backS_bor, VS.backS_own, VS.backS_emp, VS.backS_int, VS.backS_str, VS.backS_bl, VS.backS_non, VS.backS_tup, VS.backS_lst, VS.unl, VS.lockE, VS.wipeE, VS.asgN, VS.fz, VS.fzs, VS.argsE, VS.rd, List.set_cons_zero, List.set_cons_succ, List.getElem?_cons_zero, List.getElem?_cons_succ]; done) | (dsimp only [VS.lend_nil, VS.lend_cons, VS.lendS_own, VS.lendS_val, VS.lendS_bor, VS.lendS_emp, VS.back_nil, VS.back_cons, VS.backS_bor, VS.backS_own, VS.backS_emp, VS.backS_int, VS.backS_str, VS.backS_bl, VS.backS_non, VS.backS_tup, VS.backS_lst, VS.unl, VS.lockE, VS.wipeE, VS.asgN, VS.fz, VS.fzs, VS.argsE, VS.rd, List.set_cons_zero, List.set_cons_succ, List.getElem?_cons_zero, List.getElem?_cons_succ]; rfl) | rfl)) | with_reducible exact VN.two_rot | with_reducible exact VN.two_nil | with_reducible exact VN.two_rev | with_reducible exact VN.two_snoc | with_reducible exact VN.mv_two | with_reducible exact VN.mv_one | with_reducible exact VN.cm_one | with_reducible exact VN.cm_stay | with_reducible exact VN.three_P | with_reducible exact VN.three_rev | ((with_reducible apply VS.okd_i); (repeat (first | exact VN.ok_w | exact VS.ok_int | exact VS.okL_nil | refine VS.okL_cons ?_ ?_ | exact VN.ok_M | exact VN.okL_M | exact VN.okL_Mr | exact VN.okL_P | exact VN.okL_pair (by assumption) | exact VN.ok_rc (by assumption) | exact VN.ok_cp (by assumption) | exact VN.ok_cp (VN.okC_mov (by assumption)) | exact VN.ok_cp (VN.okC_mov (VN.okC_mov (by assumption))) | refine VS.ok_tup ?_ | refine VS.ok_lst ?_ | exact VS.ok_non | assumption | exact VS.ok_str (by decide +kernel) | exact VS.ok_str (by assumption))); done) | ((with_reducible apply VS.okl_i); (repeat (first | exact VN.ok_w | exact VS.ok_int | exact VS.okL_nil | refine VS.okL_cons ?_ ?_ | exact VN.ok_M | exact VN.okL_M | exact VN.okL_Mr | exact VN.okL_P | exact VN.okL_pair (by assumption) | exact VN.ok_rc (by assumption) | exact VN.ok_cp (by assumption) | exact VN.ok_cp (VN.okC_mov (by assumption)) | exact VN.ok_cp (VN.okC_mov (VN.okC_mov (by assumption))) | refine VS.ok_tup ?_ | refine VS.ok_lst ?_ | exact VS.ok_non | assumption | exact VS.ok_str (by decide +kernel) | exact VS.ok_str (by assumption))); done) | with_reducible exact VN.sg_mul _ _ | with_reducible exact VN.sg_inv _ | with_reducible assumption | exact VN.sg_get | exact VN.goes_get | rfl | ((with_reducible apply VN.ok_i); first | assumption | exact VN.inv_ok (by assumption) _ | exact VN.thn_ok (by assumption) _ _ | exact VN.nMv_ok (by assumption) | exact VN.mvA_ok (by assumption) _ | exact VN.stayM_ok (by assumption)) | ((with_reducible apply VN.okC_i); first | assumption | exact VN.okC_mov (by assumption) | exact VN.okC_mov (VN.okC_mov (by assumption)) | exact VN.okC_mov (VN.okC_mov (VN.okC_mov (by assumption)))) | exact True.intro | omega | decide | exact VS.mul_r (by decide) (by decide) | exact VS.mul_l (by decide) (by decide) | exact VS.len_le rfl | exact VS.len_lt rfl | exact VS.pow_k (by decide) (by decide) (by decide) | exact VN.mul_sA | exact VN.mul_sB | exact VN.mul_sC | exact VN.mul_sD | decide +kernel))))))))))
def top (i : Nat) : Stmt := PySem.Challenge.pw_carpetkin_k84_all_forms.main.body.getD i (.Pass ⟨0, 0, 0, 0⟩)
def K_WAYS : D := .ktup [(.str "stay"), (.str "turn"), (.str "half"), (.str "back"), (.str "side"), (.str "flip"), (.str "cross"), (.str "other")]
def K_SIGNS : D := .kdic [(.str "stay", .ktup [(.int 1), (.int 0), (.int 0), (.int 1)]), (.str "turn", .ktup [(.int 0), (.int 1), (.int (-1)), (.int 0)]), (.str "half", .ktup [(.int (-1)), (.int 0), (.int 0), (.int (-1))]), (.str "back", .ktup [(.int 0), (.int (-1)), (.int 1), (.int 0)]), (.str "side", .ktup [(.int 1), (.int 0), (.int 0), (.int (-1))]), (.str "flip", .ktup [(.int (-1)), (.int 0), (.int 0), (.int 1)]), (.str "cross", .ktup [(.int 0), (.int 1), (.int 1), (.int 0)]), (.str "other", .ktup [(.int 0), (.int (-1)), (.int (-1)), (.int 0)])]
abbrev K_LETTERS : D := .str "abcdefghijklmnopqrstuvwxyz"
def K_MOST : D := .int 600
abbrev si_TooLarge : Stmt := clsBody (top 2) 0
theorem scI_TooLarge : FnScope ["self", "many"] ["self", "many"] (defScope si_TooLarge) := ⟨rfl, rfl, rfl, by decide +kernel, rfl, by decide +kernel, by decide +kernel⟩
theorem init_TooLarge {c : Cfg} {k : Nat} {C fI B : Addr} {fd : FuncData} (Fu : Fun c.K "__init__" "TooLarge.__init__" si_TooLarge fI fd) (T : OexC c.K C) (hno : PySem.W.findIn c.K (.ref C) "many" = some none) (h : BAt c "CarpetError" B) : FnOk c.P c.w c.K c.mg c.base (cxC c) (k + 1) fI fd ["self", "many"] (spI C "many") :=
  init_ok (m := "too many") Fu scI_TooLarge T hno (fun X g => pss_cons (ps_expr (pe_binit g h.inn (GlC.gl g (glI (by decide +kernel))) (by decide) (pa_cons (pe_vis g (visI (by decide +kernel))) (pa_cons pe_str pa_nil)))) (pss_one (ps_ost (pe_vis g (visI (by decide +kernel))) (pe_vis g (visI (by decide +kernel))))))
abbrev M_turned_place : List Bool := [false, false]
abbrev s_turned_place : Stmt := top 6
abbrev N_turned_place : List Str := ["way", "place", "a", "b", "c", "d"]
theorem sc_turned_place : FnScope N_turned_place ["way", "place"] (defScope s_turned_place) := ⟨rfl, rfl, rfl, by decide +kernel, rfl, by decide +kernel, by decide +kernel⟩
abbrev M_led : List Bool := [false, false, false]
abbrev s_led : Stmt := top 7
abbrev N_led : List Str := ["n", "movement", "place", "r", "c"]
theorem sc_led : FnScope N_led ["n", "movement", "place"] (defScope s_led) := ⟨rfl, rfl, rfl, by decide +kernel, rfl, by decide +kernel, by decide +kernel⟩
abbrev M_moved : List Bool := [false, false]
abbrev s_moved : Stmt := top 8
abbrev N_moved : List Str := ["carpet", "movement", "n", "found", "r", "c"]
theorem sc_moved : FnScope N_moved ["carpet", "movement"] (defScope s_moved) := ⟨rfl, rfl, rfl, by decide +kernel, rfl, by decide +kernel, by decide +kernel⟩
abbrev M_all_movements : List Bool := [false]
abbrev s_all_movements : Stmt := top 9
abbrev N_all_movements : List Str := ["n", "found", "way", "down", "right"]
theorem sc_all_movements : FnScope N_all_movements ["n"] (defScope s_all_movements) := ⟨rfl, rfl, rfl, by decide +kernel, rfl, by decide +kernel, by decide +kernel⟩
abbrev M_rounds : List Bool := [false, false]
abbrev s_rounds : Stmt := top 12
abbrev N_rounds : List Str := ["side", "movement", "seen", "found", "r", "c", "place", "around"]
theorem sc_rounds : FnScope N_rounds ["side", "movement"] (defScope s_rounds) := ⟨rfl, rfl, rfl, by decide +kernel, rfl, by decide +kernel, by decide +kernel⟩
abbrev M_power : List Bool := [false, false]
abbrev s_power : Stmt := top 13
abbrev N_power : List Str := ["number", "times", "found", "k"]
theorem sc_power : FnScope N_power ["number", "times"] (defScope s_power) := ⟨rfl, rfl, rfl, by decide +kernel, rfl, by decide +kernel, by decide +kernel⟩
abbrev M_count_of : List Bool := [false, false]
abbrev s_count_of : Stmt := top 14
abbrev N_count_of : List Str := ["side", "colours", "some", "movement"]
theorem sc_count_of : FnScope N_count_of ["side", "colours"] (defScope s_count_of) := ⟨rfl, rfl, rfl, by decide +kernel, rfl, by decide +kernel, by decide +kernel⟩
abbrev M_carpet_by : List Bool := [false, false, false]
abbrev s_carpet_by : Stmt := top 17
abbrev N_carpet_by : List Str := ["side", "colours", "code", "rows", "r", "row", "c"]
theorem sc_carpet_by : FnScope N_carpet_by ["side", "colours", "code"] (defScope s_carpet_by) := ⟨rfl, rfl, rfl, by decide +kernel, rfl, by decide +kernel, by decide +kernel⟩
abbrev M_all_forms : List Bool := [false, false]
abbrev s_all_forms : Stmt := top 18
abbrev N_all_forms : List Str := ["side", "colours", "many", "seen", "found", "code", "carpet", "some", "one", "movement"]
theorem sc_all_forms : FnScope N_all_forms ["side", "colours"] (defScope s_all_forms) := ⟨rfl, rfl, rfl, by decide +kernel, rfl, by decide +kernel, by decide +kernel⟩
abbrev M_L_cell_at : List Bool := [true, false]
abbrev s_L_cell_at : Stmt := top 20
abbrev N_L_cell_at : List Str := ["_law_script", "_law_k"]
theorem sc_L_cell_at : FnScope N_L_cell_at ["_law_script", "_law_k"] (defScope s_L_cell_at) := ⟨rfl, rfl, rfl, by decide +kernel, rfl, by decide +kernel, by decide +kernel⟩
abbrev M_L_mixed : List Bool := [false, false]
abbrev s_L_mixed : Stmt := top 22
abbrev N_L_mixed : List Str := ["_law_cell", "_law_k"]
theorem sc_L_mixed : FnScope N_L_mixed ["_law_cell", "_law_k"] (defScope s_L_mixed) := ⟨rfl, rfl, rfl, by decide +kernel, rfl, by decide +kernel, by decide +kernel⟩
abbrev M_L_led : List Bool := [false, false, false]
abbrev s_L_led : Stmt := top 23
abbrev N_L_led : List Str := ["_law_n", "_law_movement_here", "_law_place", "_law_r", "_law_c", "_law_way", "_law_south", "_law_east"]
theorem sc_L_led : FnScope N_L_led ["_law_n", "_law_movement_here", "_law_place"] (defScope s_L_led) := ⟨rfl, rfl, rfl, by decide +kernel, rfl, by decide +kernel, by decide +kernel⟩
abbrev M_L_moved : List Bool := [false, false]
abbrev s_L_moved : Stmt := top 24
abbrev N_L_moved : List Str := ["_law_carpet_here", "_law_movement_here", "_law_n", "_law_knots", "_law_r", "_law_c"]
theorem sc_L_moved : FnScope N_L_moved ["_law_carpet_here", "_law_movement_here"] (defScope s_L_moved) := ⟨rfl, rfl, rfl, by decide +kernel, rfl, by decide +kernel, by decide +kernel⟩
abbrev M_L_all : List Bool := [false]
abbrev s_L_all : Stmt := top 25
abbrev N_L_all : List Str := ["_law_n", "_law_found", "_law_way", "_law_south", "_law_east"]
theorem sc_L_all : FnScope N_L_all ["_law_n"] (defScope s_L_all) := ⟨rfl, rfl, rfl, by decide +kernel, rfl, by decide +kernel, by decide +kernel⟩
abbrev M_L_carpet : List Bool := [false, false, false]
abbrev s_L_carpet : Stmt := top 28
abbrev N_L_carpet : List Str := ["_law_n", "_law_many", "_law_cell", "_law_letters", "_law_r", "_law_c"]
theorem sc_L_carpet : FnScope N_L_carpet ["_law_n", "_law_many", "_law_cell"] (defScope s_L_carpet) := ⟨rfl, rfl, rfl, by decide +kernel, rfl, by decide +kernel, by decide +kernel⟩
abbrev M_L_least : List Bool := [false]
abbrev s_L_least : Stmt := top 29
abbrev N_L_least : List Str := ["_law_carpet_here", "_law_movement_here"]
theorem sc_L_least : FnScope N_L_least ["_law_carpet_here"] (defScope s_L_least) := ⟨rfl, rfl, rfl, by decide +kernel, rfl, by decide +kernel, by decide +kernel⟩
abbrev M_law : List Bool := [true]
abbrev s_law : Stmt := top 30
abbrev N_law : List Str := ["_law_script", "_law_seed", "_law_n", "_law_many", "_law_found", "_law_start", "_law_form", "_law_k", "_law_kept"]
theorem sc_law : FnScope N_law ["_law_script"] (defScope s_law) := ⟨rfl, rfl, rfl, by decide +kernel, rfl, by decide +kernel, by decide +kernel⟩
abbrev F_law : FSp := FLaw
def F_turned_place : FSp := fun ds P _ => ∃ (w : Way) (r c : Int), ds = [.str w.str, dPl r c] ∧ P (.val (dPl (gR w r c) (gC w r c)))
def F_led : FSp := fun ds P _ => ∃ (n : Int) (w : Way) (d r y x : Int), ds = [.int n, dMv w d r, dPl y x] ∧ 0 < n ∧ P (.val (dPl (lR n w d y x) (lC n w r y x)))
def F_moved : FSp := fun ds P _ => ∃ (n : Nat) (f : Cp) (m : Mv), ds = [cpD n f, dM m] ∧ 0 < n ∧ n ≤ 100 ∧ m.ok n ∧ P (.val (cpD n (movF n m f)))
def F_all_movements : FSp := fun ds P _ => ∃ (n : Int), ds = [.int n] ∧ 0 ≤ n ∧ n ≤ 8 ∧ P (.fr (.lst ((allM n.toNat).map dM)))
def F_rounds : FSp := fun ds P _ => ∃ (n : Nat) (m : Mv), ds = [.int n, dM m] ∧ 0 < n ∧ n ≤ 100 ∧ P (.fr (.lst ((rndC n m).map dLP)))
def F_power : FSp := fun ds P _ => ∃ b t : Nat, ds = [.int b, .int t] ∧ t ≤ 1000 ∧ b ≤ 100 ∧ P (.val (.int ((b ^ t : Nat) : Int)))
def F_count_of : FSp := fun ds P _ => ∃ n c : Nat, ds = [.int n, .int c] ∧ 0 < n ∧ n ≤ 8 ∧ c ≤ 100 ∧ P (.val (.int (cntB n c : Nat)))
def F_carpet_by : FSp := fun ds P _ => ∃ n c code : Nat, ds = [.int n, .int c, .int code] ∧ 0 < n ∧ n ≤ 8 ∧ 0 < c ∧ c ≤ 26 ∧ P (.val (cpD n (dig n (wC n c code))))
def F_all_forms : FSp := fun ds P Xp => ∃ n c : Nat, ds = [.int n, .int c] ∧ 0 < n ∧ n ≤ 8 ∧ 0 < c ∧ c ≤ 26 ∧ (600 < c ^ (n * n) → Xp ⟨"TooLarge", [(.str "many", .int ((c ^ (n * n) : Nat) : Int))]⟩) ∧ (¬ 600 < c ^ (n * n) → ∀ L, FormsOk n c L → P (.fr (.lst (L.map (dW n)))))
def F_L_cell_at : FSp := fun ds P _ => ∃ (ns : List Int) (k : Int), ds = [.lst (ns.map D.int), .int k] ∧ 0 ≤ k ∧ P (.val (.int (cellAt ns k)))
def F_L_mixed : FSp := fun ds P _ => ∃ (c k : Int), ds = [.int c, .int k] ∧ 0 ≤ k ∧ k ≤ 1000 ∧ ∀ z, z = mixB c k → 0 ≤ z → z < 2147483629 → P (.val (.int z))
def F_L_led : FSp := fun ds P _ => ∃ (n : Int) (m : Mv) (y x : Int), ds = [.int n, dM m, dPl y x] ∧ 0 < n ∧ P (.val (dPl (lR n m.w m.d y x) (lC n m.w m.r y x)))
def F_L_moved : FSp := fun ds P _ => ∃ (n : Nat) (f : Cp) (m : Mv), ds = [cpD n f, dM m] ∧ 0 < n ∧ n ≤ 100 ∧ m.ok n ∧ P (.val (cpD n (movF n m f)))
def F_L_all : FSp := fun ds P _ => ∃ (n : Nat), ds = [.int n] ∧ n ≤ 8 ∧ P (.fr (.lst ((allW n).map dM)))
def F_L_carpet : FSp := fun ds P _ => ∃ (n c : Nat) (x : Int), ds = [.int n, .int c, .int x] ∧ 0 < n ∧ n ≤ 8 ∧ 0 < c ∧ c ≤ 26 ∧ ∀ w, Vl n c w → P (.val (cpD n (dig n w)))
def F_L_least : FSp := fun ds P _ => ∃ (n : Nat) (f : Cp), ds = [cpD n f] ∧ 0 < n ∧ n ≤ 8 ∧ okC f ∧ ∀ m, Least n f m → P (.val (cpD n (movF n m f)))
def lmF (n : Nat) (f : Cp) : D → D := fun d => cpD n (movF n (unM d) f)
theorem lmF_map {n : Nat} {f : Cp} {L : List Mv} : (L.map dM).map (lmF n f) = L.map fun m => cpD n (movF n m f) := by
  rw [List.map_map]
  refine List.map_congr_left fun m _ => ?_
  show cpD n (movF n (unM (dM m)) f) = _
  rw [unM_dM]
theorem e_turned_place (d0 d1 : D) : startE M_turned_place [d0, d1] N_turned_place.length = [.val d0, .val d1, .emp, .emp, .emp, .emp] := rfl
def t_turned_place : STt :=
  sSeq (sAsg (gTp 4 (gsCons (gNm 2) (gsCons (gNm 3) (gsCons (gNm 4) (gsCons (gNm 5) (gsNil)))))) (eOp2 opIdx (eC K_SIGNS) (eVar 0)))
  (sRet (eTup (aCons (eOp2 opAdd (eOp2 opMul (eVar 2) (eOp2 opIdx (eVar 1) (eC (.int 0)))) (eOp2 opMul (eVar 3) (eOp2 opIdx (eVar 1) (eC (.int 1))))) (aCons (eOp2 opAdd (eOp2 opMul (eVar 4) (eOp2 opIdx (eVar 1) (eC (.int 0)))) (eOp2 opMul (eVar 5) (eOp2 opIdx (eVar 1) (eC (.int 1))))) (aNil)))))
theorem b_turned_place {c : Cfg} {k : Nat} (g_SIGNS : Glb c "SIGNS" K_SIGNS) : VSs (c.inn k N_turned_place (defScope s_turned_place)) (defBody s_turned_place) t_turned_place :=
  vss_cons (vs_asg (vg_tup (vgs_cons (vg_name (stoI (by decide +kernel))) (vgs_cons (vg_name (stoI (by decide +kernel))) (vgs_cons (vg_name (stoI (by decide +kernel))) (vgs_cons (vg_name (stoI (by decide +kernel))) (vgs_nil)))))) (ve_idx (ve_glb g_SIGNS.inn (glI (by decide +kernel)) (by decide)) (ve_var (visI (by decide +kernel)))))
  (vss_one (vs_ret (ve_tup (va_cons (ve_add (ve_mul (ve_var (visI (by decide +kernel))) (ve_idx (ve_var (visI (by decide +kernel))) (ve_int))) (ve_mul (ve_var (visI (by decide +kernel))) (ve_idx (ve_var (visI (by decide +kernel))) (ve_int)))) (va_cons (ve_add (ve_mul (ve_var (visI (by decide +kernel))) (ve_idx (ve_var (visI (by decide +kernel))) (ve_int))) (ve_mul (ve_var (visI (by decide +kernel))) (ve_idx (ve_var (visI (by decide +kernel))) (ve_int)))) (va_nil))))))
theorem e_led (d0 d1 d2 : D) : startE M_led [d0, d1, d2] N_led.length = [.val d0, .val d1, .val d2, .emp, .emp] := rfl
def t_led : STt :=
  sSeq (sAsg (gTp 2 (gsCons (gNm 3) (gsCons (gNm 4) (gsNil)))) (eCall M_turned_place F_turned_place (aCons (eOp2 opIdx (eVar 1) (eC (.int 0))) (aCons (eVar 2) (aNil)))))
  (sRet (eTup (aCons (eOp2 opMod (eOp2 opAdd (eVar 3) (eOp2 opIdx (eVar 1) (eC (.int 1)))) (eVar 0)) (aCons (eOp2 opMod (eOp2 opAdd (eVar 4) (eOp2 opIdx (eVar 1) (eC (.int 2)))) (eVar 0)) (aNil)))))
theorem b_led {c : Cfg} {k : Nat} (f_turned_place : FnC (c.lv k) "turned_place" M_turned_place F_turned_place) : VSs (c.inn k N_led (defScope s_led)) (defBody s_led) t_led :=
  vss_cons (vs_asg (vg_tup (vgs_cons (vg_name (stoI (by decide +kernel))) (vgs_cons (vg_name (stoI (by decide +kernel))) (vgs_nil)))) (ve_call f_turned_place.inn (glI (by decide +kernel)) (va_cons (ve_idx (ve_var (visI (by decide +kernel))) (ve_int)) (va_cons (ve_var (visI (by decide +kernel))) (va_nil)))))
  (vss_one (vs_ret (ve_tup (va_cons (ve_mod (ve_add (ve_var (visI (by decide +kernel))) (ve_idx (ve_var (visI (by decide +kernel))) (ve_int))) (ve_var (visI (by decide +kernel)))) (va_cons (ve_mod (ve_add (ve_var (visI (by decide +kernel))) (ve_idx (ve_var (visI (by decide +kernel))) (ve_int))) (ve_var (visI (by decide +kernel)))) (va_nil))))))
theorem e_moved (d0 d1 : D) : startE M_moved [d0, d1] N_moved.length = [.val d0, .val d1, .emp, .emp, .emp, .emp] := rfl
def t_moved : STt :=
  sSeq (sSet 2 (eOpn opLen (aCons (eVar 0) (aNil))))
  (sSeq (sSet 3 (eDic0 true))
  (sSeq (sFor (iRg1 (aCons (eVar 2) (aNil))) (gNm 4) (sFor (iRg1 (aCons (eVar 2) (aNil))) (gNm 5) (sPut 3 (eCall M_led F_led (aCons (eVar 2) (aCons (eVar 1) (aCons (eTup (aCons (eVar 4) (aCons (eVar 5) (aNil)))) (aNil))))) (eOp2 opIdx (eOp2 opIdx (eVar 0) (eVar 4)) (eVar 5)))))
  (sRet (eOpn opTuple (aCons (eLc (iRg1 (aCons (eVar 2) (aNil))) (gNm 4) (tYesD) (eMth "str" opJoin (eC (.str "")) (aCons (eLc (iRg1 (aCons (eVar 2) (aNil))) (gNm 5) (tYesD) (eOp2 opIdx (eVar 3) (eTup (aCons (eVar 4) (aCons (eVar 5) (aNil))))) [5]) (aNil))) [4]) (aNil))))))
theorem b_moved {c : Cfg} {k : Nat} (f_led : FnC (c.lv k) "led" M_led F_led) (m_len : c.mg "len" = none) (m_range : c.mg "range" = none) (m_tuple : c.mg "tuple" = none) : VSs (c.inn k N_moved (defScope s_moved)) (defBody s_moved) t_moved :=
  vss_cons (vs_set (stoI (by decide +kernel)) (ve_blt (bltI (u := .builtin "len") m_len (by decide +kernel) (by decide +kernel) (by decide +kernel) (by decide +kernel)) (fun X g => r_len g) len_s (va_cons (ve_var (visI (by decide +kernel))) (va_nil))))
  (vss_cons (vs_set (stoI (by decide +kernel)) (ve_dic0T))
  (vss_cons (vs_for (vi_rg1 (bltI (u := .type "range") m_range (by decide +kernel) (by decide +kernel) (by decide +kernel) (by decide +kernel)) (va_cons (ve_var (visI (by decide +kernel))) (va_nil))) (vg_name (stoI (by decide +kernel))) (vss_one (vs_for (vi_rg1 (bltI (u := .type "range") m_range (by decide +kernel) (by decide +kernel) (by decide +kernel) (by decide +kernel)) (va_cons (ve_var (visI (by decide +kernel))) (va_nil))) (vg_name (stoI (by decide +kernel))) (vss_one (vs_put (visI (by decide +kernel)) (ve_idx (ve_idx (ve_var (visI (by decide +kernel))) (ve_var (visI (by decide +kernel)))) (ve_var (visI (by decide +kernel)))) (ve_call f_led.inn (glI (by decide +kernel)) (va_cons (ve_var (visI (by decide +kernel))) (va_cons (ve_var (visI (by decide +kernel))) (va_cons (ve_tup (va_cons (ve_var (visI (by decide +kernel))) (va_cons (ve_var (visI (by decide +kernel))) (va_nil)))) (va_nil))))))))))
  (vss_one (vs_ret (ve_bty (bltI (u := .type "tuple") m_tuple (by decide +kernel) (by decide +kernel) (by decide +kernel) (by decide +kernel)) (fun X g => r_tuple g) tuple_s (va_cons (ve_lc (own := [("r", 4)]) (vi_rg1 (bltI (u := .type "range") m_range (by decide +kernel) (by decide +kernel) (by decide +kernel) (by decide +kernel)) (va_cons (ve_var (visI (by decide +kernel))) (va_nil))) (by decide +kernel) (vg_name (stoK (by decide +kernel))) (vts_nil) (ve_mth PySem.F.plainAttrs_str PySem.F.slot_str_join PySem.F.type_str_join (fun X g => r_join g) join_s (ve_str) (va_cons (ve_lcK (own := [("c", 5)]) (vi_rg1 (bltK (u := .type "range") m_range (by decide +kernel) (by decide +kernel) (by decide +kernel) (by decide +kernel)) (va_cons (ve_var (visK (by decide +kernel))) (va_nil))) (by decide +kernel) (vg_name (stoK2 (by decide +kernel))) (vts_nil) (ve_idx (ve_var (visK2 (by decide +kernel))) (ve_tup (va_cons (ve_var (visK2 (by decide +kernel))) (va_cons (ve_var (visK2 (by decide +kernel))) (va_nil)))))) (va_nil)))) (va_nil)))))))
theorem e_all_movements (d0 : D) : startE M_all_movements [d0] N_all_movements.length = [.val d0, .emp, .emp, .emp, .emp] := rfl
def t_all_movements : STt :=
  sSeq (sSet 1 (eLst (aNil)))
  (sSeq (sFor (iSeq (eOpn opSorted (aCons (eC K_WAYS) (aNil)))) (gNm 2) (sFor (iRg1 (aCons (eVar 0) (aNil))) (gNm 3) (sFor (iRg1 (aCons (eVar 0) (aNil))) (gNm 4) (sDrop (eApp 1 (eTup (aCons (eVar 2) (aCons (eVar 3) (aCons (eVar 4) (aNil))))))))))
  (sRet (eVar 1)))
theorem b_all_movements {c : Cfg} {k : Nat} (g_WAYS : Glb c "WAYS" K_WAYS) (m_sorted : c.mg "sorted" = none) (m_range : c.mg "range" = none) : VSs (c.inn k N_all_movements (defScope s_all_movements)) (defBody s_all_movements) t_all_movements :=
  vss_cons (vs_set (stoI (by decide +kernel)) (ve_lst (va_nil)))
  (vss_cons (vs_for (vi_seq (ve_blt (bltI (u := .builtin "sorted") m_sorted (by decide +kernel) (by decide +kernel) (by decide +kernel) (by decide +kernel)) (fun X g => r_sorted g) sorted_s (va_cons (ve_glb g_WAYS.inn (glI (by decide +kernel)) (by decide)) (va_nil)))) (vg_name (stoI (by decide +kernel))) (vss_one (vs_for (vi_rg1 (bltI (u := .type "range") m_range (by decide +kernel) (by decide +kernel) (by decide +kernel) (by decide +kernel)) (va_cons (ve_var (visI (by decide +kernel))) (va_nil))) (vg_name (stoI (by decide +kernel))) (vss_one (vs_for (vi_rg1 (bltI (u := .type "range") m_range (by decide +kernel) (by decide +kernel) (by decide +kernel) (by decide +kernel)) (va_cons (ve_var (visI (by decide +kernel))) (va_nil))) (vg_name (stoI (by decide +kernel))) (vss_one (vs_expr (ve_app (visI (by decide +kernel)) (ve_tup (va_cons (ve_var (visI (by decide +kernel))) (va_cons (ve_var (visI (by decide +kernel))) (va_cons (ve_var (visI (by decide +kernel))) (va_nil)))))))))))))
  (vss_one (vs_ret (ve_var (visI (by decide +kernel))))))
theorem e_rounds (d0 d1 : D) : startE M_rounds [d0, d1] N_rounds.length = [.val d0, .val d1, .emp, .emp, .emp, .emp, .emp, .emp] := rfl
def t_rounds : STt :=
  sSeq (sSet 2 (eDic0 true))
  (sSeq (sSet 3 (eLst (aNil)))
  (sSeq (sFor (iRg1 (aCons (eVar 0) (aNil))) (gNm 4) (sFor (iRg1 (aCons (eVar 0) (aNil))) (gNm 5) (sSeq (sSet 6 (eTup (aCons (eVar 4) (aCons (eVar 5) (aNil)))))
  (sIf (tV (eOp2 (opIn true) (eVar 6) (eVar 2))) (sSeq (sSet 7 (eLst (aNil)))
  (sSeq (sWhile (tV (eOp2 (opIn true) (eVar 6) (eVar 2))) (sSeq (sPut 2 (eVar 6) (eC (.bl true)))
  (sSeq (sDrop (eApp 7 (eVar 6)))
  (sSet 6 (eCall M_led F_led (aCons (eVar 0) (aCons (eVar 1) (aCons (eVar 6) (aNil)))))))))
  (sDrop (eApp 3 (eVar 7))))) (sNext)))))
  (sRet (eVar 3))))
theorem b_rounds {c : Cfg} {k : Nat} (f_led : FnC (c.lv k) "led" M_led F_led) (m_range : c.mg "range" = none) : VSs (c.inn k N_rounds (defScope s_rounds)) (defBody s_rounds) t_rounds :=
  vss_cons (vs_set (stoI (by decide +kernel)) (ve_dic0T))
  (vss_cons (vs_set (stoI (by decide +kernel)) (ve_lst (va_nil)))
  (vss_cons (vs_for (vi_rg1 (bltI (u := .type "range") m_range (by decide +kernel) (by decide +kernel) (by decide +kernel) (by decide +kernel)) (va_cons (ve_var (visI (by decide +kernel))) (va_nil))) (vg_name (stoI (by decide +kernel))) (vss_one (vs_for (vi_rg1 (bltI (u := .type "range") m_range (by decide +kernel) (by decide +kernel) (by decide +kernel) (by decide +kernel)) (va_cons (ve_var (visI (by decide +kernel))) (va_nil))) (vg_name (stoI (by decide +kernel))) (vss_cons (vs_set (stoI (by decide +kernel)) (ve_tup (va_cons (ve_var (visI (by decide +kernel))) (va_cons (ve_var (visI (by decide +kernel))) (va_nil)))))
  (vss_one (vs_if (vt_notin (ve_var (visI (by decide +kernel))) (ve_var (visI (by decide +kernel)))) (vss_cons (vs_set (stoI (by decide +kernel)) (ve_lst (va_nil)))
  (vss_cons (vs_while (vt_notin (ve_var (visI (by decide +kernel))) (ve_var (visI (by decide +kernel)))) (vss_cons (vs_put (visI (by decide +kernel)) (ve_bl) (ve_var (visI (by decide +kernel))))
  (vss_cons (vs_expr (ve_app (visI (by decide +kernel)) (ve_var (visI (by decide +kernel)))))
  (vss_one (vs_set (stoI (by decide +kernel)) (ve_call f_led.inn (glI (by decide +kernel)) (va_cons (ve_var (visI (by decide +kernel))) (va_cons (ve_var (visI (by decide +kernel))) (va_cons (ve_var (visI (by decide +kernel))) (va_nil))))))))))
  (vss_one (vs_expr (ve_app (visI (by decide +kernel)) (ve_var (visI (by decide +kernel)))))))) (vss_nil)))))))
  (vss_one (vs_ret (ve_var (visI (by decide +kernel)))))))
theorem e_power (d0 d1 : D) : startE M_power [d0, d1] N_power.length = [.val d0, .val d1, .emp, .emp] := rfl
def t_power : STt :=
  sSeq (sSet 2 (eC (.int 1)))
  (sSeq (sFor (iRg1 (aCons (eVar 1) (aNil))) (gNm 3) (sSet 2 (eOp2 opMul (eVar 2) (eVar 0))))
  (sRet (eVar 2)))
theorem b_power {c : Cfg} {k : Nat} (m_range : c.mg "range" = none) : VSs (c.inn k N_power (defScope s_power)) (defBody s_power) t_power :=
  vss_cons (vs_set (stoI (by decide +kernel)) (ve_int))
  (vss_cons (vs_for (vi_rg1 (bltI (u := .type "range") m_range (by decide +kernel) (by decide +kernel) (by decide +kernel) (by decide +kernel)) (va_cons (ve_var (visI (by decide +kernel))) (va_nil))) (vg_name (stoI (by decide +kernel))) (vss_one (vs_set (stoI (by decide +kernel)) (ve_mul (ve_var (visI (by decide +kernel))) (ve_var (visI (by decide +kernel)))))))
  (vss_one (vs_ret (ve_var (visI (by decide +kernel))))))
theorem e_count_of (d0 d1 : D) : startE M_count_of [d0, d1] N_count_of.length = [.val d0, .val d1, .emp, .emp] := rfl
def t_count_of : STt :=
  sSeq (sSet 2 (eCall M_all_movements F_all_movements (aCons (eVar 0) (aNil))))
  (sRet (eOp2 opDiv (eOpn opSum (aCons (eLc (iSeq (eVar 2)) (gNm 3) (tYesD) (eCall M_power F_power (aCons (eVar 1) (aCons (eOpn opLen (aCons (eCall M_rounds F_rounds (aCons (eVar 0) (aCons (eVar 3) (aNil)))) (aNil))) (aNil)))) [3]) (aNil))) (eOpn opLen (aCons (eVar 2) (aNil)))))
theorem b_count_of {c : Cfg} {k : Nat} (f_all_movements : FnC (c.lv k) "all_movements" M_all_movements F_all_movements) (f_power : FnC (c.lv k) "power" M_power F_power) (f_rounds : FnC (c.lv k) "rounds" M_rounds F_rounds) (m_len : c.mg "len" = none) (m_sum : c.mg "sum" = none) : VSs (c.inn k N_count_of (defScope s_count_of)) (defBody s_count_of) t_count_of :=
  vss_cons (vs_set (stoI (by decide +kernel)) (ve_call f_all_movements.inn (glI (by decide +kernel)) (va_cons (ve_var (visI (by decide +kernel))) (va_nil))))
  (vss_one (vs_ret (ve_div (ve_blt (bltI (u := .builtin "sum") m_sum (by decide +kernel) (by decide +kernel) (by decide +kernel) (by decide +kernel)) (fun X g => r_sum g) sum_s (va_cons (ve_lc (own := [("movement", 3)]) (vi_seq (ve_var (visI (by decide +kernel)))) (by decide +kernel) (vg_name (stoK (by decide +kernel))) (vts_nil) (ve_call f_power.blk (glK (by decide +kernel)) (va_cons (ve_var (visK (by decide +kernel))) (va_cons (ve_blt (bltK (u := .builtin "len") m_len (by decide +kernel) (by decide +kernel) (by decide +kernel) (by decide +kernel)) (fun X g => r_len g) len_s (va_cons (ve_call f_rounds.blk (glK (by decide +kernel)) (va_cons (ve_var (visK (by decide +kernel))) (va_cons (ve_var (visK (by decide +kernel))) (va_nil)))) (va_nil))) (va_nil))))) (va_nil))) (ve_blt (bltI (u := .builtin "len") m_len (by decide +kernel) (by decide +kernel) (by decide +kernel) (by decide +kernel)) (fun X g => r_len g) len_s (va_cons (ve_var (visI (by decide +kernel))) (va_nil))))))
theorem e_carpet_by (d0 d1 d2 : D) : startE M_carpet_by [d0, d1, d2] N_carpet_by.length = [.val d0, .val d1, .val d2, .emp, .emp, .emp, .emp] := rfl
def t_carpet_by : STt :=
  sSeq (sSet 3 (eLst (aNil)))
  (sSeq (sFor (iRg1 (aCons (eVar 0) (aNil))) (gNm 4) (sSeq (sSet 5 (eC (.str "")))
  (sSeq (sFor (iRg1 (aCons (eVar 0) (aNil))) (gNm 6) (sSeq (sSet 5 (eOp2 opAdd (eVar 5) (eOp2 opIdx (eC K_LETTERS) (eOp2 opMod (eVar 2) (eVar 1)))))
  (sSet 2 (eOp2 opDiv (eVar 2) (eVar 1)))))
  (sDrop (eApp 3 (eVar 5))))))
  (sRet (eOpn opTuple (aCons (eVar 3) (aNil)))))
theorem b_carpet_by {c : Cfg} {k : Nat} (g_LETTERS : Glb c "LETTERS" K_LETTERS) (m_range : c.mg "range" = none) (m_tuple : c.mg "tuple" = none) : VSs (c.inn k N_carpet_by (defScope s_carpet_by)) (defBody s_carpet_by) t_carpet_by :=
  vss_cons (vs_set (stoI (by decide +kernel)) (ve_lst (va_nil)))
  (vss_cons (vs_for (vi_rg1 (bltI (u := .type "range") m_range (by decide +kernel) (by decide +kernel) (by decide +kernel) (by decide +kernel)) (va_cons (ve_var (visI (by decide +kernel))) (va_nil))) (vg_name (stoI (by decide +kernel))) (vss_cons (vs_set (stoI (by decide +kernel)) (ve_str))
  (vss_cons (vs_for (vi_rg1 (bltI (u := .type "range") m_range (by decide +kernel) (by decide +kernel) (by decide +kernel) (by decide +kernel)) (va_cons (ve_var (visI (by decide +kernel))) (va_nil))) (vg_name (stoI (by decide +kernel))) (vss_cons (vs_set (stoI (by decide +kernel)) (ve_add (ve_var (visI (by decide +kernel))) (ve_idx (ve_glb g_LETTERS.inn (glI (by decide +kernel)) (by decide)) (ve_mod (ve_var (visI (by decide +kernel))) (ve_var (visI (by decide +kernel)))))))
  (vss_one (vs_set (stoI (by decide +kernel)) (ve_div (ve_var (visI (by decide +kernel))) (ve_var (visI (by decide +kernel))))))))
  (vss_one (vs_expr (ve_app (visI (by decide +kernel)) (ve_var (visI (by decide +kernel)))))))))
  (vss_one (vs_ret (ve_bty (bltI (u := .type "tuple") m_tuple (by decide +kernel) (by decide +kernel) (by decide +kernel) (by decide +kernel)) (fun X g => r_tuple g) tuple_s (va_cons (ve_var (visI (by decide +kernel))) (va_nil))))))
theorem e_all_forms (d0 d1 : D) : startE M_all_forms [d0, d1] N_all_forms.length = [.val d0, .val d1, .emp, .emp, .emp, .emp, .emp, .emp, .emp, .emp] := rfl
def t_all_forms : STt :=
  sSeq (sSet 2 (eCall M_power F_power (aCons (eVar 1) (aCons (eOp2 opMul (eVar 0) (eVar 0)) (aNil)))))
  (sSeq (sIf (tV (eOp2 opGt (eVar 2) (eC K_MOST))) (sRaiseI "TooLarge" "many" (eVar 2)) (sNext))
  (sSeq (sSet 3 (eDic0 true))
  (sSeq (sSet 4 (eLst (aNil)))
  (sSeq (sFor (iRg1 (aCons (eVar 2) (aNil))) (gNm 5) (sSeq (sSet 6 (eCall M_carpet_by F_carpet_by (aCons (eVar 0) (aCons (eVar 1) (aCons (eVar 5) (aNil))))))
  (sIf (tV (eOp2 (opIn true) (eVar 6) (eVar 3))) (sSeq (sSet 7 (eLc (iSeq (eCall M_all_movements F_all_movements (aCons (eVar 0) (aNil)))) (gNm 9) (tYesD) (eCall M_moved F_moved (aCons (eVar 6) (aCons (eVar 9) (aNil)))) [9]))
  (sSeq (sFor (iSeq (eVar 7)) (gNm 8) (sPut 3 (eVar 8) (eC (.bl true))))
  (sDrop (eApp 4 (eOpn opMinD (aCons (eVar 7) (aNil))))))) (sNext))))
  (sRet (eOpn opSorted (aCons (eVar 4) (aNil))))))))
theorem b_all_forms {c : Cfg} {k : Nat} (f_power : FnC (c.lv k) "power" M_power F_power) (f_carpet_by : FnC (c.lv k) "carpet_by" M_carpet_by F_carpet_by) (f_all_movements : FnC (c.lv k) "all_movements" M_all_movements F_all_movements) (f_moved : FnC (c.lv k) "moved" M_moved F_moved) (g_MOST : Glb c "MOST" K_MOST) (m_range : c.mg "range" = none) (m_min : c.mg "min" = none) (m_sorted : c.mg "sorted" = none) (i_TooLarge : XICls c "TooLarge" "many") (hk_lv : 2 ≤ k) (hnc_ : c.nc = false) : VSs (c.inn k N_all_forms (defScope s_all_forms)) (defBody s_all_forms) t_all_forms :=
  vss_cons (vs_set (stoI (by decide +kernel)) (ve_call f_power.inn (glI (by decide +kernel)) (va_cons (ve_var (visI (by decide +kernel))) (va_cons (ve_mul (ve_var (visI (by decide +kernel))) (ve_var (visI (by decide +kernel)))) (va_nil)))))
  (vss_cons (vs_if (vt_gt (ve_var (visI (by decide +kernel))) (ve_glb g_MOST.inn (glI (by decide +kernel)) (by decide))) (vss_one (vs_raiseI i_TooLarge.inn (glI (by decide +kernel)) (by decide) (ve_var (visI (by decide +kernel))) hk_lv hnc_)) (vss_nil))
  (vss_cons (vs_set (stoI (by decide +kernel)) (ve_dic0T))
  (vss_cons (vs_set (stoI (by decide +kernel)) (ve_lst (va_nil)))
  (vss_cons (vs_for (vi_rg1 (bltI (u := .type "range") m_range (by decide +kernel) (by decide +kernel) (by decide +kernel) (by decide +kernel)) (va_cons (ve_var (visI (by decide +kernel))) (va_nil))) (vg_name (stoI (by decide +kernel))) (vss_cons (vs_set (stoI (by decide +kernel)) (ve_call f_carpet_by.inn (glI (by decide +kernel)) (va_cons (ve_var (visI (by decide +kernel))) (va_cons (ve_var (visI (by decide +kernel))) (va_cons (ve_var (visI (by decide +kernel))) (va_nil))))))
  (vss_one (vs_if (vt_notin (ve_var (visI (by decide +kernel))) (ve_var (visI (by decide +kernel)))) (vss_cons (vs_setLc (own := [("movement", 9)]) (stoI (by decide +kernel)) (by decide +kernel) (vi_seq (ve_call f_all_movements.inn (glI (by decide +kernel)) (va_cons (ve_var (visI (by decide +kernel))) (va_nil)))) (by decide +kernel) (vg_name (stoK (by decide +kernel))) (vts_nil) (ve_call f_moved.blk (glK (by decide +kernel)) (va_cons (ve_var (visK (by decide +kernel))) (va_cons (ve_var (visK (by decide +kernel))) (va_nil)))))
  (vss_cons (vs_for (vi_seq (ve_var (visI (by decide +kernel)))) (vg_name (stoI (by decide +kernel))) (vss_one (vs_put (visI (by decide +kernel)) (ve_bl) (ve_var (visI (by decide +kernel))))))
  (vss_one (vs_expr (ve_app (visI (by decide +kernel)) (ve_blt (bltI (u := .builtin "min") m_min (by decide +kernel) (by decide +kernel) (by decide +kernel) (by decide +kernel)) (fun X g => r_minD g) minD_s (va_cons (ve_var (visI (by decide +kernel))) (va_nil)))))))) (vss_nil)))))
  (vss_one (vs_ret (ve_blt (bltI (u := .builtin "sorted") m_sorted (by decide +kernel) (by decide +kernel) (by decide +kernel) (by decide +kernel)) (fun X g => r_sorted g) sorted_s (va_cons (ve_var (visI (by decide +kernel))) (va_nil)))))))))
theorem e_L_cell_at (d0 d1 : D) : startE M_L_cell_at [d0, d1] N_L_cell_at.length = [.bor d0, .val d1] := rfl
def t_L_cell_at : STt :=
  sSeq (sIf (tV (eOp2 opLtA (eVar 1) (eOpn opLen (aCons (eVar 0) (aNil))))) (sRet (eOp2 opIdx (eVar 0) (eVar 1))) (sNext))
  (sRet (eC (.int 0)))
theorem b_L_cell_at {c : Cfg} {k : Nat} (m_len : c.mg "len" = none) : VSs (c.inn k N_L_cell_at (defScope s_L_cell_at)) (defBody s_L_cell_at) t_L_cell_at :=
  vss_cons (vs_if (vt_ltA (ve_var (visI (by decide +kernel))) (ve_blt (bltI (u := .builtin "len") m_len (by decide +kernel) (by decide +kernel) (by decide +kernel) (by decide +kernel)) (fun X g => r_len g) len_s (va_cons (ve_var (visI (by decide +kernel))) (va_nil)))) (vss_one (vs_ret (ve_idx (ve_var (visI (by decide +kernel))) (ve_var (visI (by decide +kernel)))))) (vss_nil))
  (vss_one (vs_ret (ve_int)))
theorem e_L_mixed (d0 d1 : D) : startE M_L_mixed [d0, d1] N_L_mixed.length = [.val d0, .val d1] := rfl
def t_L_mixed : STt :=
  sRet (eOp2 opMod (eOp2 opMul (eOp2 opAdd (eOp2 opMod (eVar 0) (eC (.int 2147483647))) (eC (.int 17))) (eOp2 opAdd (eC (.int 48271)) (eOp2 opMul (eOp2 opMul (eC (.int 2)) (eVar 1)) (eVar 1)))) (eC (.int 2147483629)))
theorem b_L_mixed {c : Cfg} {k : Nat} : VSs (c.inn k N_L_mixed (defScope s_L_mixed)) (defBody s_L_mixed) t_L_mixed :=
  vss_one (vs_ret (ve_mod (ve_mul (ve_add (ve_mod (ve_var (visI (by decide +kernel))) (ve_int)) (ve_int)) (ve_add (ve_int) (ve_mul (ve_mul (ve_int) (ve_var (visI (by decide +kernel)))) (ve_var (visI (by decide +kernel)))))) (ve_int)))
theorem e_L_led (d0 d1 d2 : D) : startE M_L_led [d0, d1, d2] N_L_led.length = [.val d0, .val d1, .val d2, .emp, .emp, .emp, .emp, .emp] := rfl
def t_L_led : STt :=
  sSeq (sAsg (gTp 2 (gsCons (gNm 3) (gsCons (gNm 4) (gsNil)))) (eVar 2))
  (sSeq (sAsg (gTp 3 (gsCons (gNm 5) (gsCons (gNm 6) (gsCons (gNm 7) (gsNil))))) (eVar 1))
  (sSeq (sIf (tV (eOp2 (opIn false) (eVar 5) (eTup (aCons (eC (.str "turn")) (aCons (eC (.str "back")) (aCons (eC (.str "cross")) (aCons (eC (.str "other")) (aNil)))))))) (sPar 3 4 (aCons (eVar 4) (aCons (eVar 3) (aNil)))) (sNext))
  (sSeq (sIf (tV (eOp2 (opIn false) (eVar 5) (eTup (aCons (eC (.str "half")) (aCons (eC (.str "flip")) (aCons (eC (.str "back")) (aCons (eC (.str "other")) (aNil)))))))) (sSet 3 (eOp2 opSub (eC (.int 0)) (eVar 3))) (sNext))
  (sSeq (sIf (tV (eOp2 (opIn false) (eVar 5) (eTup (aCons (eC (.str "half")) (aCons (eC (.str "side")) (aCons (eC (.str "turn")) (aCons (eC (.str "other")) (aNil)))))))) (sSet 4 (eOp2 opSub (eC (.int 0)) (eVar 4))) (sNext))
  (sRet (eTup (aCons (eOp2 opMod (eOp2 opAdd (eVar 3) (eVar 6)) (eVar 0)) (aCons (eOp2 opMod (eOp2 opAdd (eVar 4) (eVar 7)) (eVar 0)) (aNil)))))))))
theorem b_L_led {c : Cfg} {k : Nat} : VSs (c.inn k N_L_led (defScope s_L_led)) (defBody s_L_led) t_L_led :=
  vss_cons (vs_asg (vg_tup (vgs_cons (vg_name (stoI (by decide +kernel))) (vgs_cons (vg_name (stoI (by decide +kernel))) (vgs_nil)))) (ve_var (visI (by decide +kernel))))
  (vss_cons (vs_asg (vg_tup (vgs_cons (vg_name (stoI (by decide +kernel))) (vgs_cons (vg_name (stoI (by decide +kernel))) (vgs_cons (vg_name (stoI (by decide +kernel))) (vgs_nil))))) (ve_var (visI (by decide +kernel))))
  (vss_cons (vs_if (vt_in (ve_var (visI (by decide +kernel))) (ve_tup (va_cons (ve_str) (va_cons (ve_str) (va_cons (ve_str) (va_cons (ve_str) (va_nil))))))) (vss_one (vs_par (by show parB N_L_led (defScope s_L_led) _ _ _ _ _ _ _ = true; decide +kernel) (va_cons (ve_var (visI (by decide +kernel))) (va_cons (ve_var (visI (by decide +kernel))) (va_nil))))) (vss_nil))
  (vss_cons (vs_if (vt_in (ve_var (visI (by decide +kernel))) (ve_tup (va_cons (ve_str) (va_cons (ve_str) (va_cons (ve_str) (va_cons (ve_str) (va_nil))))))) (vss_one (vs_set (stoI (by decide +kernel)) (ve_sub (ve_int) (ve_var (visI (by decide +kernel)))))) (vss_nil))
  (vss_cons (vs_if (vt_in (ve_var (visI (by decide +kernel))) (ve_tup (va_cons (ve_str) (va_cons (ve_str) (va_cons (ve_str) (va_cons (ve_str) (va_nil))))))) (vss_one (vs_set (stoI (by decide +kernel)) (ve_sub (ve_int) (ve_var (visI (by decide +kernel)))))) (vss_nil))
  (vss_one (vs_ret (ve_tup (va_cons (ve_mod (ve_add (ve_var (visI (by decide +kernel))) (ve_var (visI (by decide +kernel)))) (ve_var (visI (by decide +kernel)))) (va_cons (ve_mod (ve_add (ve_var (visI (by decide +kernel))) (ve_var (visI (by decide +kernel)))) (ve_var (visI (by decide +kernel)))) (va_nil))))))))))
theorem e_L_moved (d0 d1 : D) : startE M_L_moved [d0, d1] N_L_moved.length = [.val d0, .val d1, .emp, .emp, .emp, .emp] := rfl
def t_L_moved : STt :=
  sSeq (sSet 2 (eOpn opLen (aCons (eVar 0) (aNil))))
  (sSeq (sSet 3 (eDic0 true))
  (sSeq (sFor (iRg1 (aCons (eVar 2) (aNil))) (gNm 4) (sFor (iRg1 (aCons (eVar 2) (aNil))) (gNm 5) (sPut 3 (eCall M_L_led F_L_led (aCons (eVar 2) (aCons (eVar 1) (aCons (eTup (aCons (eVar 4) (aCons (eVar 5) (aNil)))) (aNil))))) (eOp2 opIdx (eOp2 opIdx (eVar 0) (eVar 4)) (eVar 5)))))
  (sRet (eOpn opTuple (aCons (eLc (iRg1 (aCons (eVar 2) (aNil))) (gNm 4) (tYesD) (eMth "str" opJoin (eC (.str "")) (aCons (eLc (iRg1 (aCons (eVar 2) (aNil))) (gNm 5) (tYesD) (eOp2 opIdx (eVar 3) (eTup (aCons (eVar 4) (aCons (eVar 5) (aNil))))) [5]) (aNil))) [4]) (aNil))))))
theorem b_L_moved {c : Cfg} {k : Nat} (f_L_led : FnC (c.lv k) "_law_led" M_L_led F_L_led) (m_len : c.mg "len" = none) (m_range : c.mg "range" = none) (m_tuple : c.mg "tuple" = none) : VSs (c.inn k N_L_moved (defScope s_L_moved)) (defBody s_L_moved) t_L_moved :=
  vss_cons (vs_set (stoI (by decide +kernel)) (ve_blt (bltI (u := .builtin "len") m_len (by decide +kernel) (by decide +kernel) (by decide +kernel) (by decide +kernel)) (fun X g => r_len g) len_s (va_cons (ve_var (visI (by decide +kernel))) (va_nil))))
  (vss_cons (vs_set (stoI (by decide +kernel)) (ve_dic0T))
  (vss_cons (vs_for (vi_rg1 (bltI (u := .type "range") m_range (by decide +kernel) (by decide +kernel) (by decide +kernel) (by decide +kernel)) (va_cons (ve_var (visI (by decide +kernel))) (va_nil))) (vg_name (stoI (by decide +kernel))) (vss_one (vs_for (vi_rg1 (bltI (u := .type "range") m_range (by decide +kernel) (by decide +kernel) (by decide +kernel) (by decide +kernel)) (va_cons (ve_var (visI (by decide +kernel))) (va_nil))) (vg_name (stoI (by decide +kernel))) (vss_one (vs_put (visI (by decide +kernel)) (ve_idx (ve_idx (ve_var (visI (by decide +kernel))) (ve_var (visI (by decide +kernel)))) (ve_var (visI (by decide +kernel)))) (ve_call f_L_led.inn (glI (by decide +kernel)) (va_cons (ve_var (visI (by decide +kernel))) (va_cons (ve_var (visI (by decide +kernel))) (va_cons (ve_tup (va_cons (ve_var (visI (by decide +kernel))) (va_cons (ve_var (visI (by decide +kernel))) (va_nil)))) (va_nil))))))))))
  (vss_one (vs_ret (ve_bty (bltI (u := .type "tuple") m_tuple (by decide +kernel) (by decide +kernel) (by decide +kernel) (by decide +kernel)) (fun X g => r_tuple g) tuple_s (va_cons (ve_lc (own := [("_law_r", 4)]) (vi_rg1 (bltI (u := .type "range") m_range (by decide +kernel) (by decide +kernel) (by decide +kernel) (by decide +kernel)) (va_cons (ve_var (visI (by decide +kernel))) (va_nil))) (by decide +kernel) (vg_name (stoK (by decide +kernel))) (vts_nil) (ve_mth PySem.F.plainAttrs_str PySem.F.slot_str_join PySem.F.type_str_join (fun X g => r_join g) join_s (ve_str) (va_cons (ve_lcK (own := [("_law_c", 5)]) (vi_rg1 (bltK (u := .type "range") m_range (by decide +kernel) (by decide +kernel) (by decide +kernel) (by decide +kernel)) (va_cons (ve_var (visK (by decide +kernel))) (va_nil))) (by decide +kernel) (vg_name (stoK2 (by decide +kernel))) (vts_nil) (ve_idx (ve_var (visK2 (by decide +kernel))) (ve_tup (va_cons (ve_var (visK2 (by decide +kernel))) (va_cons (ve_var (visK2 (by decide +kernel))) (va_nil)))))) (va_nil)))) (va_nil)))))))
theorem e_L_all (d0 : D) : startE M_L_all [d0] N_L_all.length = [.val d0, .emp, .emp, .emp, .emp] := rfl
def t_L_all : STt :=
  sSeq (sSet 1 (eLst (aNil)))
  (sSeq (sFor (iSeq (eLst (aCons (eC (.str "stay")) (aCons (eC (.str "turn")) (aCons (eC (.str "half")) (aCons (eC (.str "back")) (aCons (eC (.str "side")) (aCons (eC (.str "flip")) (aCons (eC (.str "cross")) (aCons (eC (.str "other")) (aNil))))))))))) (gNm 2) (sFor (iRg1 (aCons (eVar 0) (aNil))) (gNm 3) (sFor (iRg1 (aCons (eVar 0) (aNil))) (gNm 4) (sDrop (eApp 1 (eTup (aCons (eVar 2) (aCons (eVar 3) (aCons (eVar 4) (aNil))))))))))
  (sRet (eVar 1)))
theorem b_L_all {c : Cfg} {k : Nat} (m_range : c.mg "range" = none) : VSs (c.inn k N_L_all (defScope s_L_all)) (defBody s_L_all) t_L_all :=
  vss_cons (vs_set (stoI (by decide +kernel)) (ve_lst (va_nil)))
  (vss_cons (vs_for (vi_seq (ve_lst (va_cons (ve_str) (va_cons (ve_str) (va_cons (ve_str) (va_cons (ve_str) (va_cons (ve_str) (va_cons (ve_str) (va_cons (ve_str) (va_cons (ve_str) (va_nil))))))))))) (vg_name (stoI (by decide +kernel))) (vss_one (vs_for (vi_rg1 (bltI (u := .type "range") m_range (by decide +kernel) (by decide +kernel) (by decide +kernel) (by decide +kernel)) (va_cons (ve_var (visI (by decide +kernel))) (va_nil))) (vg_name (stoI (by decide +kernel))) (vss_one (vs_for (vi_rg1 (bltI (u := .type "range") m_range (by decide +kernel) (by decide +kernel) (by decide +kernel) (by decide +kernel)) (va_cons (ve_var (visI (by decide +kernel))) (va_nil))) (vg_name (stoI (by decide +kernel))) (vss_one (vs_expr (ve_app (visI (by decide +kernel)) (ve_tup (va_cons (ve_var (visI (by decide +kernel))) (va_cons (ve_var (visI (by decide +kernel))) (va_cons (ve_var (visI (by decide +kernel))) (va_nil)))))))))))))
  (vss_one (vs_ret (ve_var (visI (by decide +kernel))))))
theorem e_L_carpet (d0 d1 d2 : D) : startE M_L_carpet [d0, d1, d2] N_L_carpet.length = [.val d0, .val d1, .val d2, .emp, .emp, .emp] := rfl
def t_L_carpet : STt :=
  sSeq (sSet 3 (eC (.str "abcdefghijklmnopqrstuvwxyz")))
  (sRet (eOpn opTuple (aCons (eLc (iRg1 (aCons (eVar 0) (aNil))) (gNm 4) (tYesD) (eMth "str" opJoin (eC (.str "")) (aCons (eLc (iRg1 (aCons (eVar 0) (aNil))) (gNm 5) (tYesD) (eOp2 opIdx (eVar 3) (eOp2 opMod (eCall M_L_mixed F_L_mixed (aCons (eVar 2) (aCons (eOp2 opAdd (eOp2 opMul (eVar 4) (eVar 0)) (eVar 5)) (aNil)))) (eVar 1))) [5]) (aNil))) [4]) (aNil))))
theorem b_L_carpet {c : Cfg} {k : Nat} (f_L_mixed : FnC (c.lv k) "_law_mixed" M_L_mixed F_L_mixed) (m_range : c.mg "range" = none) (m_tuple : c.mg "tuple" = none) : VSs (c.inn k N_L_carpet (defScope s_L_carpet)) (defBody s_L_carpet) t_L_carpet :=
  vss_cons (vs_set (stoI (by decide +kernel)) (ve_str))
  (vss_one (vs_ret (ve_bty (bltI (u := .type "tuple") m_tuple (by decide +kernel) (by decide +kernel) (by decide +kernel) (by decide +kernel)) (fun X g => r_tuple g) tuple_s (va_cons (ve_lc (own := [("_law_r", 4)]) (vi_rg1 (bltI (u := .type "range") m_range (by decide +kernel) (by decide +kernel) (by decide +kernel) (by decide +kernel)) (va_cons (ve_var (visI (by decide +kernel))) (va_nil))) (by decide +kernel) (vg_name (stoK (by decide +kernel))) (vts_nil) (ve_mth PySem.F.plainAttrs_str PySem.F.slot_str_join PySem.F.type_str_join (fun X g => r_join g) join_s (ve_str) (va_cons (ve_lcK (own := [("_law_c", 5)]) (vi_rg1 (bltK (u := .type "range") m_range (by decide +kernel) (by decide +kernel) (by decide +kernel) (by decide +kernel)) (va_cons (ve_var (visK (by decide +kernel))) (va_nil))) (by decide +kernel) (vg_name (stoK2 (by decide +kernel))) (vts_nil) (ve_idx (ve_var (visK2 (by decide +kernel))) (ve_mod (ve_call f_L_mixed.blk2 (glK2 (by decide +kernel)) (va_cons (ve_var (visK2 (by decide +kernel))) (va_cons (ve_add (ve_mul (ve_var (visK2 (by decide +kernel))) (ve_var (visK2 (by decide +kernel)))) (ve_var (visK2 (by decide +kernel)))) (va_nil)))) (ve_var (visK2 (by decide +kernel)))))) (va_nil)))) (va_nil)))))
theorem e_L_least (d0 : D) : startE M_L_least [d0] N_L_least.length = [.val d0, .emp] := rfl
def t_L_least : STt :=
  sRet (eOpn opMinD (aCons (eLc (iSeq (eCall M_L_all F_L_all (aCons (eOpn opLen (aCons (eVar 0) (aNil))) (aNil)))) (gNm 1) (tYesD) (eCall M_L_moved F_L_moved (aCons (eVar 0) (aCons (eVar 1) (aNil)))) [1]) (aNil)))
theorem b_L_least {c : Cfg} {k : Nat} (f_L_all : FnC (c.lv k) "_law_all" M_L_all F_L_all) (f_L_moved : FnC (c.lv k) "_law_moved" M_L_moved F_L_moved) (m_len : c.mg "len" = none) (m_min : c.mg "min" = none) : VSs (c.inn k N_L_least (defScope s_L_least)) (defBody s_L_least) t_L_least :=
  vss_one (vs_ret (ve_blt (bltI (u := .builtin "min") m_min (by decide +kernel) (by decide +kernel) (by decide +kernel) (by decide +kernel)) (fun X g => r_minD g) minD_s (va_cons (ve_lc (own := [("_law_movement_here", 1)]) (vi_seq (ve_call f_L_all.inn (glI (by decide +kernel)) (va_cons (ve_blt (bltI (u := .builtin "len") m_len (by decide +kernel) (by decide +kernel) (by decide +kernel) (by decide +kernel)) (fun X g => r_len g) len_s (va_cons (ve_var (visI (by decide +kernel))) (va_nil))) (va_nil)))) (by decide +kernel) (vg_name (stoK (by decide +kernel))) (vts_nil) (ve_call f_L_moved.blk (glK (by decide +kernel)) (va_cons (ve_var (visK (by decide +kernel))) (va_cons (ve_var (visK (by decide +kernel))) (va_nil))))) (va_nil))))
theorem e_law (d0 : D) : startE M_law [d0] N_law.length = [.bor d0, .emp, .emp, .emp, .emp, .emp, .emp, .emp, .emp] := rfl
def t_law : STt :=
  sSeq (sSet 1 (eCall M_L_mixed F_L_mixed (aCons (eCall M_L_cell_at F_L_cell_at (aCons (eVar 0) (aCons (eC (.int 0)) (aNil)))) (aCons (eC (.int 0)) (aNil)))))
  (sSeq (sSet 2 (eOp2 opIdx (eLst (aCons (eC (.int 1)) (aCons (eC (.int 2)) (aCons (eC (.int 2)) (aCons (eC (.int 3)) (aNil)))))) (eOp2 opMod (eVar 1) (eC (.int 4)))))
  (sSeq (sSet 3 (eOp2 opIdx (eLst (aCons (eOp2 opAdd (eC (.int 1)) (eOp2 opMod (eOp2 opDiv (eVar 1) (eC (.int 4))) (eC (.int 26)))) (aCons (eOp2 opAdd (eC (.int 1)) (eOp2 opMod (eOp2 opDiv (eVar 1) (eC (.int 4))) (eC (.int 3)))) (aCons (eC (.int 1)) (aNil))))) (eOp2 opSub (eVar 2) (eC (.int 1)))))
  (sSeq (sIf (tV (eOp2 opEq (eOp2 opMod (eOp2 opDiv (eVar 1) (eC (.int 128))) (eC (.int 10))) (eC (.int 0)))) (sSet 3 (eOp2 opIdx (eLst (aCons (eVar 3) (aCons (eC (.int 4)) (aCons (eC (.int 2)) (aNil))))) (eOp2 opSub (eVar 2) (eC (.int 1))))) (sNext))
  (sSeq (sSet 4 (eCall M_all_forms F_all_forms (aCons (eVar 2) (aCons (eVar 3) (aNil)))))
  (sSeq (sIf (tOrD (tNotD (tV (eOpn opIsi (aCons (eVar 4) (aCons (eC (.ty "list")) (aNil)))))) (tOrD (tV (eOp2 opNe (eVar 4) (eOp1 opSortSetT (eVar 4)))) (tV (eOp2 opNe (eOpn opLen (aCons (eVar 4) (aNil))) (eCall M_count_of F_count_of (aCons (eVar 2) (aCons (eVar 3) (aNil)))))))) (sRet (eC (.bl false))) (sNext))
  (sSeq (sIf (tV (eOp2 opNe (eLc (iSeq (eVar 4)) (gNm 6) (tOrD (tNotD (tV (eOpn opIsi (aCons (eVar 6) (aCons (eC (.ty "tuple")) (aNil)))))) (tV (eOp2 opNe (eOpn opLen (aCons (eVar 6) (aNil))) (eVar 2)))) (eVar 6) [6]) (eLst (aNil)))) (sRet (eC (.bl false))) (sNext))
  (sSeq (sSet 5 (eOp2 opMod (eOp2 opDiv (eVar 1) (eC (.int 512))) (eOpn opLen (aCons (eVar 4) (aNil)))))
  (sSeq (sFor (iSeq (eSl01 (eOp2 opAdd (eSl10 (eVar 4) (eVar 5)) (eSl01 (eVar 4) (eVar 5))) (eC (.int 12)))) (gNm 6) (sIf (tV (eOp2 opNe (eCall M_L_least F_L_least (aCons (eVar 6) (aNil))) (eVar 6))) (sRet (eC (.bl false))) (sNext)))
  (sSeq (sFor (iRg2 (aCons (eC (.int 1)) (aCons (eOpn opMin2 (aCons (eOpn opLen (aCons (eVar 0) (aNil))) (aCons (eC (.int 11)) (aNil)))) (aNil)))) (gNm 7) (sIf (tV (eOp2 (opIn true) (eCall M_L_least F_L_least (aCons (eCall M_L_carpet F_L_carpet (aCons (eVar 2) (aCons (eVar 3) (aCons (eOp2 opIdx (eVar 0) (eVar 7)) (aNil))))) (aNil))) (eVar 4))) (sRet (eC (.bl false))) (sNext)))
  (sSeq (sSet 8 (eOpn opList (aCons (eVar 4) (aNil))))
  (sSeq (sDrop (eApp 4 (eTup (aNil))))
  (sRet (eOr (eOp2 opEq (eOp2 opMod (eOp2 opDiv (eVar 1) (eC (.int 128))) (eC (.int 10))) (eC (.int 0))) (eOp2 opEq (eCall M_all_forms F_all_forms (aCons (eVar 2) (aCons (eVar 3) (aNil)))) (eVar 8)))))))))))))))
theorem b_law {c : Cfg} {k : Nat} (f_L_mixed : FnC (c.lv k) "_law_mixed" M_L_mixed F_L_mixed) (f_L_cell_at : FnC (c.lv k) "_law_cell_at" M_L_cell_at F_L_cell_at) (f_all_forms : FnC (c.lv k) "all_forms" M_all_forms F_all_forms) (f_count_of : FnC (c.lv k) "count_of" M_count_of F_count_of) (f_L_least : FnC (c.lv k) "_law_least" M_L_least F_L_least) (f_L_carpet : FnC (c.lv k) "_law_carpet" M_L_carpet F_L_carpet) (m_list : c.mg "list" = none) (m_isinstance : c.mg "isinstance" = none) (m_sorted : c.mg "sorted" = none) (m_set : c.mg "set" = none) (m_len : c.mg "len" = none) (m_tuple : c.mg "tuple" = none) (m_min : c.mg "min" = none) (m_range : c.mg "range" = none) : VSs (c.inn k N_law (defScope s_law)) (defBody s_law) t_law :=
  vss_cons (vs_set (stoI (by decide +kernel)) (ve_call f_L_mixed.inn (glI (by decide +kernel)) (va_cons (ve_call f_L_cell_at.inn (glI (by decide +kernel)) (va_cons (ve_var (visI (by decide +kernel))) (va_cons (ve_int) (va_nil)))) (va_cons (ve_int) (va_nil)))))
  (vss_cons (vs_set (stoI (by decide +kernel)) (ve_idx (ve_lst (va_cons (ve_int) (va_cons (ve_int) (va_cons (ve_int) (va_cons (ve_int) (va_nil)))))) (ve_mod (ve_var (visI (by decide +kernel))) (ve_int))))
  (vss_cons (vs_set (stoI (by decide +kernel)) (ve_idx (ve_lst (va_cons (ve_add (ve_int) (ve_mod (ve_div (ve_var (visI (by decide +kernel))) (ve_int)) (ve_int))) (va_cons (ve_add (ve_int) (ve_mod (ve_div (ve_var (visI (by decide +kernel))) (ve_int)) (ve_int))) (va_cons (ve_int) (va_nil))))) (ve_sub (ve_var (visI (by decide +kernel))) (ve_int))))
  (vss_cons (vs_if (vt_eq (ve_mod (ve_div (ve_var (visI (by decide +kernel))) (ve_int)) (ve_int)) (ve_int)) (vss_one (vs_set (stoI (by decide +kernel)) (ve_idx (ve_lst (va_cons (ve_var (visI (by decide +kernel))) (va_cons (ve_int) (va_cons (ve_int) (va_nil))))) (ve_sub (ve_var (visI (by decide +kernel))) (ve_int))))) (vss_nil))
  (vss_cons (vs_set (stoI (by decide +kernel)) (ve_call f_all_forms.inn (glI (by decide +kernel)) (va_cons (ve_var (visI (by decide +kernel))) (va_cons (ve_var (visI (by decide +kernel))) (va_nil)))))
  (vss_cons (vs_if (vw_vt (vw_or (vt_not (vt_val (ve_blt (bltI (u := .builtin "isinstance") m_isinstance (by decide +kernel) (by decide +kernel) (by decide +kernel) (by decide +kernel)) (fun X g => by rw [← g.K]; exact call_isiD) isi_s (va_cons (ve_var (visI (by decide +kernel))) (va_cons (ve_type (bltI (u := .type "list") m_list (by decide +kernel) (by decide +kernel) (by decide +kernel) (by decide +kernel))) (va_nil)))))) (vw_or (vt_ne (ve_var (visI (by decide +kernel))) (ve_sortSetT (bltI (u := .builtin "sorted") m_sorted (by decide +kernel) (by decide +kernel) (by decide +kernel) (by decide +kernel)) (bltI (u := .type "set") m_set (by decide +kernel) (by decide +kernel) (by decide +kernel) (by decide +kernel)) (ve_var (visI (by decide +kernel))))) (vw_or1 (vt_ne (ve_blt (bltI (u := .builtin "len") m_len (by decide +kernel) (by decide +kernel) (by decide +kernel) (by decide +kernel)) (fun X g => r_len g) len_s (va_cons (ve_var (visI (by decide +kernel))) (va_nil))) (ve_call f_count_of.inn (glI (by decide +kernel)) (va_cons (ve_var (visI (by decide +kernel))) (va_cons (ve_var (visI (by decide +kernel))) (va_nil))))))))) (vss_one (vs_ret (ve_bl))) (vss_nil))
  (vss_cons (vs_if (vt_ne (ve_lc (own := [("_law_form", 6)]) (vi_seq (ve_var (visI (by decide +kernel)))) (by decide +kernel) (vg_name (stoK (by decide +kernel))) (vts_one (vw_vt (vw_or (vt_not (vt_val (ve_blt (bltK (u := .builtin "isinstance") m_isinstance (by decide +kernel) (by decide +kernel) (by decide +kernel) (by decide +kernel)) (fun X g => by rw [← g.K]; exact call_isiD) isi_s (va_cons (ve_var (visK (by decide +kernel))) (va_cons (ve_type (bltK (u := .type "tuple") m_tuple (by decide +kernel) (by decide +kernel) (by decide +kernel) (by decide +kernel))) (va_nil)))))) (vw_or1 (vt_ne (ve_blt (bltK (u := .builtin "len") m_len (by decide +kernel) (by decide +kernel) (by decide +kernel) (by decide +kernel)) (fun X g => r_len g) len_s (va_cons (ve_var (visK (by decide +kernel))) (va_nil))) (ve_var (visK (by decide +kernel)))))))) (ve_var (visK (by decide +kernel)))) (ve_lst (va_nil))) (vss_one (vs_ret (ve_bl))) (vss_nil))
  (vss_cons (vs_set (stoI (by decide +kernel)) (ve_mod (ve_div (ve_var (visI (by decide +kernel))) (ve_int)) (ve_blt (bltI (u := .builtin "len") m_len (by decide +kernel) (by decide +kernel) (by decide +kernel) (by decide +kernel)) (fun X g => r_len g) len_s (va_cons (ve_var (visI (by decide +kernel))) (va_nil)))))
  (vss_cons (vs_for (vi_seq (ve_sl01 (ve_add (ve_sl10 (ve_var (visI (by decide +kernel))) (ve_var (visI (by decide +kernel)))) (ve_sl01 (ve_var (visI (by decide +kernel))) (ve_var (visI (by decide +kernel))))) (ve_int))) (vg_name (stoI (by decide +kernel))) (vss_one (vs_if (vt_ne (ve_call f_L_least.inn (glI (by decide +kernel)) (va_cons (ve_var (visI (by decide +kernel))) (va_nil))) (ve_var (visI (by decide +kernel)))) (vss_one (vs_ret (ve_bl))) (vss_nil))))
  (vss_cons (vs_for (vi_rg2 (bltI (u := .type "range") m_range (by decide +kernel) (by decide +kernel) (by decide +kernel) (by decide +kernel)) (va_cons (ve_int) (va_cons (ve_blt (bltI (u := .builtin "min") m_min (by decide +kernel) (by decide +kernel) (by decide +kernel) (by decide +kernel)) (fun X g => call_min2 g.calm) min2_s (va_cons (ve_blt (bltI (u := .builtin "len") m_len (by decide +kernel) (by decide +kernel) (by decide +kernel) (by decide +kernel)) (fun X g => r_len g) len_s (va_cons (ve_var (visI (by decide +kernel))) (va_nil))) (va_cons (ve_int) (va_nil)))) (va_nil)))) (vg_name (stoI (by decide +kernel))) (vss_one (vs_if (vt_notin (ve_call f_L_least.inn (glI (by decide +kernel)) (va_cons (ve_call f_L_carpet.inn (glI (by decide +kernel)) (va_cons (ve_var (visI (by decide +kernel))) (va_cons (ve_var (visI (by decide +kernel))) (va_cons (ve_idx (ve_var (visI (by decide +kernel))) (ve_var (visI (by decide +kernel)))) (va_nil))))) (va_nil))) (ve_var (visI (by decide +kernel)))) (vss_one (vs_ret (ve_bl))) (vss_nil))))
  (vss_cons (vs_set (stoI (by decide +kernel)) (ve_bty (bltI (u := .type "list") m_list (by decide +kernel) (by decide +kernel) (by decide +kernel) (by decide +kernel)) (fun X g => r_list g) list_s (va_cons (ve_var (visI (by decide +kernel))) (va_nil))))
  (vss_cons (vs_expr (ve_app (visI (by decide +kernel)) (ve_tup (va_nil))))
  (vss_one (vs_ret (ve_or (ve_eq (ve_mod (ve_div (ve_var (visI (by decide +kernel))) (ve_int)) (ve_int)) (ve_int)) (ve_one (ve_eq (ve_call f_all_forms.inn (glI (by decide +kernel)) (va_cons (ve_var (visI (by decide +kernel))) (va_cons (ve_var (visI (by decide +kernel))) (va_nil)))) (ve_var (visI (by decide +kernel)))))))))))))))))))
theorem h_turned_place : ∀ ds P Xp, ds.length = M_turned_place.length → F_turned_place ds P Xp → t_turned_place (bodyE P Xp) (startE M_turned_place ds N_turned_place.length) := by
  intro ds P Xp hlen_ h
  obtain ⟨w, r, c, rfl, h⟩ := h
  rw [gR_sg, gC_sg] at h
  (rw [e_turned_place]; decreasing_trivial_pre_omega)
  exact h
theorem h_led : ∀ ds P Xp, ds.length = M_led.length → F_led ds P Xp → t_led (bodyE P Xp) (startE M_led ds N_led.length) := by
  intro ds P Xp hlen_ h
  obtain ⟨n, w, d, r, y, x, rfl, hn, h⟩ := h
  (rw [e_led]; decreasing_trivial_pre_omega)
  exact h
theorem h_moved : ∀ ds P Xp, ds.length = M_moved.length → F_moved ds P Xp → t_moved (bodyE P Xp) (startE M_moved ds N_moved.length) := by
  intro ds P Xp hlen_ h
  obtain ⟨n, f, m, rfl, hn, h100, hok, h⟩ := h
  have hn' : (0 : Int) < n := by omega
  (rw [e_moved]; decreasing_trivial_pre_omega)
  refine for_nat (fun i e => i ≤ n ∧ ∃ kvs s4 s5, kvs.length ≤ i * n ∧ (∀ r c : Int, 0 ≤ r → r < i → 0 ≤ c → c < n → dget kvs (dPl (lR n m.w m.d r c) (lC n m.w m.r r c)) = some (sgn (f r c))) ∧ e = [.val (cpD n f), .val (dM m), .val (.int n), .own (.dic true kvs), s4, s5]) ⟨by omega, [], _, _, by simp, by intros; omega, rfl⟩ ?_ ?_
  · rintro e ⟨_, kvs, s4, s5, hl, hg, rfl⟩
    rw [rg_len, Int.toNat_natCast] at hg
    decreasing_trivial_pre_omega
    rw [Int.toNat_natCast]
    refine lc_mapI (rowF n (movF n m f)) (fun e => ∃ s5, e = [.val (cpD n f), .val (dM m), .val (.int n), .own (.dic true kvs), .emp, s5]) (by rw [rg_len]; exact sle_of (by omega)) ⟨_, rfl⟩ ?_ ?_
    · rintro e ⟨s5, rfl⟩
      decreasing_trivial_pre_omega
      rw [rowF_cp]
      exact h
    · rintro d hd e ⟨s5, rfl⟩ K hK
      obtain ⟨i, hi, rfl⟩ := mem_rg hd
      decreasing_trivial_pre_omega
      rw [Int.toNat_natCast]
      refine lc_map (sgnF (movF n m f (0 + (i : Int)))) (by rw [rg_len]; exact sle_of (by omega)) ?_ ?_
      · decreasing_trivial_pre_omega
        exact hK _ ⟨_, rfl⟩
      · rintro d hd K2 hK2
        obtain ⟨j, hj, rfl⟩ := mem_rg hd
        have o := lR_ok hn' (inv n m).w (inv n m).d (0 + (i : Int)) (0 + (j : Int))
        have o2 := lC_ok hn' (inv n m).w (inv n m).r (0 + (i : Int)) (0 + (j : Int))
        have q := hg _ _ o.1 o.2 o2.1 o2.2
        have b := led_there hn m hok (r := 0 + (i : Int)) (c := 0 + (j : Int)) (by omega) (by omega) (by omega) (by omega)
        rw [b.1, b.2] at q
        decreasing_trivial_pre_omega
        exact hK2
  · rintro i d e hd ⟨_, kvs, s4, s5, hl, hg, rfl⟩ K hK
    obtain ⟨hi, rfl⟩ := rg_get hd
    rw [Int.toNat_natCast] at hi
    have hin : i * n ≤ 100 * 100 := Nat.mul_le_mul (by omega) h100
    decreasing_trivial_pre_omega
    refine for_nat (fun j e => j ≤ n ∧ ∃ kvs s5, kvs.length ≤ i * n + j ∧ (∀ r c : Int, 0 ≤ r → 0 ≤ c → c < n → (r < i ∨ (r = i ∧ c < j)) → dget kvs (dPl (lR n m.w m.d r c) (lC n m.w m.r r c)) = some (sgn (f r c))) ∧ e = [.val (cpD n f), .val (dM m), .val (.int n), .own (.dic true kvs), .val (.int (0 + (i : Int))), s5]) ⟨by omega, kvs, _, by omega, fun r c h0 h1 h2 h3 => hg r c h0 (by omega) h1 h2, rfl⟩ ?_ ?_
    · rintro e ⟨_, kvs, s5, hl, hg, rfl⟩
      rw [rg_len, Int.toNat_natCast] at hg hl
      refine hK _ ⟨by omega, kvs, _, _, by rw [Nat.succ_mul]; exact hl, fun r c h0 h1 h2 h3 => hg r c h0 h2 h3 (by omega), rfl⟩
    · rintro j d e hd2 ⟨_, kvs, s5, hl, hg, rfl⟩ K2 hK2
      obtain ⟨hj, rfl⟩ := rg_get hd2
      rw [Int.toNat_natCast] at hj
      have hsl : kvs.length < sizeLine := sl_of (by omega)
      decreasing_trivial_pre_omega
      refine hK2 _ ⟨by omega, _, _, Nat.le_trans (dput_len _ _ _) (by omega), fun r c h0 h1 h2 h3 => ?_, rfl⟩
      rw [dget_put]
      have hr : r < n := by omega
      split
      · rename_i e
        have e := dPl_inj e
        have b1 := led_back hn m h0 hr h1 h2
        have b2 := led_back hn m (r := 0 + (i : Int)) (c := 0 + (j : Int)) (by omega) (by omega) (by omega) (by omega)
        rw [e.1, e.2, b2.1, b2.2] at b1
        rw [b1.1, b1.2]
      · rename_i e
        refine hg r c h0 h1 h2 ?_
        by_cases hh : r = i ∧ c = j
        · exact absurd (by rw [hh.1, hh.2, Int.zero_add, Int.zero_add]) e
        · omega
theorem h_all_movements : ∀ ds P Xp, ds.length = M_all_movements.length → F_all_movements ds P Xp → t_all_movements (bodyE P Xp) (startE M_all_movements ds N_all_movements.length) := by
  intro ds P Xp hlen_ h
  obtain ⟨n, rfl, h0, hn, h⟩ := h
  obtain ⟨n, rfl⟩ := Int.eq_ofNat_of_zero_le h0
  rw [Int.toNat_natCast] at h
  have hn : n ≤ 8 := by omega
  (rw [e_all_movements]; decreasing_trivial_pre_omega)
  refine ⟨ok_WAYS, ?_⟩
  rw [sort_WAYS]
  decreasing_trivial_pre_omega
  refine for_nat (fun i e => i ≤ 8 ∧ ∃ s2 s3 s4, e = [.val (.int n), .own (.lst ((allOf (sWays.take i) n).map dM)), s2, s3, s4]) ⟨by omega, _, _, _, rfl⟩ ?_ ?_
  · rintro e ⟨_, s2, s3, s4, rfl⟩
    decreasing_trivial_pre_omega
    exact h
  · rintro i d e hd ⟨_, s2, s3, s4, rfl⟩ K hK
    have hi : i < 8 := (List.getElem?_eq_some_iff.mp hd).1
    obtain ⟨w, hw1, rfl⟩ := sWays_get hd
    have hl1 := allOf_len (sWays.take i) n
    rw [List.length_take, show sWays.length = 8 from rfl, Nat.min_eq_left (by omega)] at hl1
    have hnn : n * n ≤ 64 := Nat.mul_le_mul hn hn
    have hl2 : i * (n * n) ≤ 7 * 64 := Nat.mul_le_mul (by omega) hnn
    decreasing_trivial_pre_omega
    refine for_nat (fun j e => j ≤ n ∧ ∃ s3 s4, e = [.val (.int n), .own (.lst ((allOf (sWays.take i) n ++ (List.range j).flatMap fun d => rowM w (d : Nat) n).map dM)), .val (.str w.str), s3, s4]) ⟨by omega, _, _, by simp; rfl⟩ ?_ ?_
    · rintro e ⟨_, s3, s4, rfl⟩
      exact hK _ ⟨by omega, _, _, _, by rw [rg_len, Int.toNat_natCast, allOf_take hw1] <;> rfl⟩
    · rintro j d e hd2 ⟨_, s3, s4, rfl⟩ K2 hK2
      obtain ⟨hj, rfl⟩ := rg_get hd2
      rw [Int.toNat_natCast] at hj
      have hl3 := rows_len w n j
      have hl4 : j * n ≤ 7 * 8 := Nat.mul_le_mul (by omega) hn
      decreasing_trivial_pre_omega
      refine for_nat (fun k e => k ≤ n ∧ ∃ s4, e = [.val (.int n), .own (.lst ((allOf (sWays.take i) n ++ ((List.range j).flatMap fun d => rowM w (d : Nat) n) ++ rowM w (j : Nat) k).map dM)), .val (.str w.str), .val (.int (0 + (j : Int))), s4]) ⟨by omega, _, by simp [rowM]; rfl⟩ ?_ ?_
      · rintro e ⟨_, s4, rfl⟩
        have e : allOf (sWays.take i) n ++ ((List.range (j + 1)).flatMap fun d => rowM w (d : Nat) n) = allOf (sWays.take i) n ++ ((List.range j).flatMap fun d => rowM w (d : Nat) n) ++ rowM w (j : Nat) n := by
          rw [List.range_succ, List.flatMap_append, List.append_assoc, List.flatMap_cons, List.flatMap_nil, List.append_nil]
        exact hK2 _ ⟨by omega, _, _, by rw [rg_len, Int.toNat_natCast, e] <;> rfl⟩
      · rintro k d e hd3 ⟨_, s4, rfl⟩ K3 hK3
        obtain ⟨hk, rfl⟩ := rg_get hd3
        rw [Int.toNat_natCast] at hk
        have hb : ((allOf (sWays.take i) n ++ ((List.range j).flatMap fun d => rowM w (d : Nat) n) ++ rowM w (j : Nat) k).map dM).length < sizeLine := by
          have e : sizeLine = 16777216 := by decide
          rw [List.length_map, List.length_append, List.length_append, hl1, hl3, e]
          have : (rowM w (j : Nat) k).length = k := by simp [rowM]
          omega
        decreasing_trivial_pre_omega
        have e : (allOf (sWays.take i) n ++ ((List.range j).flatMap fun d => rowM w (d : Nat) n) ++ rowM w (j : Nat) (k + 1)).map dM = (allOf (sWays.take i) n ++ ((List.range j).flatMap fun d => rowM w (d : Nat) n) ++ rowM w (j : Nat) k).map dM ++ [.tup [.str w.str, .int (0 + (j : Int)), .int (0 + (k : Int))]] := by
          rw [rowM_succ, ← List.append_assoc, List.map_append (l₂ := [_]), Int.zero_add, Int.zero_add]; rfl
        exact hK3 _ ⟨by omega, _, by rw [e]⟩
theorem h_rounds : ∀ ds P Xp, ds.length = M_rounds.length → F_rounds ds P Xp → t_rounds (bodyE P Xp) (startE M_rounds ds N_rounds.length) := by
  intro ds P Xp hlen_ h
  obtain ⟨n, m, rfl, hn, h100, h⟩ := h
  have hn' : (0 : Int) < n := by omega
  have hnn : n * n ≤ 100 * 100 := Nat.mul_le_mul h100 h100
  (rw [e_rounds]; decreasing_trivial_pre_omega)
  refine for_nat (fun i e => i ≤ n ∧ Sn n (rndX n m (preP n i 0)).2 ∧ (rndX n m (preP n i 0)).1.length ≤ i * n ∧ ∃ s4 s5 s6 s7, e = [.val (.int n), .val (dM m), .own (.dic true (kvA dP (fun _ => .bl true) (rndX n m (preP n i 0)).2)), .own (.lst ((rndX n m (preP n i 0)).1.map dLP)), s4, s5, s6, s7]) ⟨by omega, Sn.nil, Nat.zero_le _, _, _, _, _, rfl⟩ ?_ ?_
  · rintro e ⟨_, _, _, s4, s5, s6, s7, rfl⟩
    rw [rg_len, Int.toNat_natCast, preP_all]
    decreasing_trivial_pre_omega
    exact h
  · rintro i d e hd ⟨_, hS, hR, s4, s5, s6, s7, rfl⟩ K hK
    obtain ⟨hi, rfl⟩ := rg_get hd
    rw [Int.toNat_natCast] at hi
    decreasing_trivial_pre_omega
    refine for_nat (fun j e => j ≤ n ∧ Sn n (rndX n m (preP n i j)).2 ∧ (rndX n m (preP n i j)).1.length ≤ i * n + j ∧ ∃ s5 s6 s7, e = [.val (.int n), .val (dM m), .own (.dic true (kvA dP (fun _ => .bl true) (rndX n m (preP n i j)).2)), .own (.lst ((rndX n m (preP n i j)).1.map dLP)), .val (.int (0 + (i : Int))), s5, s6, s7]) ⟨by omega, hS, by omega, _, _, _, rfl⟩ ?_ ?_
    · rintro e ⟨_, hS, hR, s5, s6, s7, rfl⟩
      rw [rg_len, Int.toNat_natCast, ← preP_row] at hS hR
      exact hK _ ⟨by omega, hS, by rw [Nat.succ_mul]; exact hR, _, _, _, _, by rw [rg_len, Int.toNat_natCast, ← preP_row] <;> rfl⟩
    · rintro j d e hd2 ⟨_, hS, hR, s5, s6, s7, rfl⟩ K2 hK2
      obtain ⟨hj, rfl⟩ := rg_get hd2
      rw [Int.toNat_natCast] at hj
      have hij : i * n ≤ 100 * 100 := Nat.mul_le_mul (by omega) (by omega)
      have hp : (((i : Int), (j : Int)) : Pl) ∈ allP n := mem_allP.mpr ⟨by show (0 : Int) ≤ i; omega, by show (i : Int) < n; omega, by show (0 : Int) ≤ j; omega, by show (j : Int) < n; omega⟩
      have hsx : rndX n m (preP n i (j + 1)) = rndS n m (rndX n m (preP n i j)) ((i : Int), (j : Int)) := by rw [preP_succ, rndX_snoc]
      rw [hsx] at hK2
      generalize rndX n m (preP n i j) = X at *
      obtain ⟨R, S⟩ := X
      have hsl : (R.map dLP).length < sizeLine := by rw [List.length_map]; exact sl_of (show R.length ≤ 1000000 by have : R.length ≤ i * n + j := hR; omega)
      have hS : Sn n S := hS
      have hR : R.length ≤ i * n + j := hR
      have hSl := hS.len
      rw [Int.zero_add, Int.zero_add]
      decreasing_trivial_pre_omega
      refine ite_ni (fun hnot => ?_) fun hin => ?_
      · have hst : rndS n m (R, S) ((i : Int), (j : Int)) = (R ++ [orbC n m (n * n + 1) S ((i : Int), (j : Int))], S ++ orbC n m (n * n + 1) S ((i : Int), (j : Int))) := if_neg hnot
        rw [hst] at hK2
        generalize hO : orbC n m (n * n + 1) S ((i : Int), (j : Int)) = O at *
        decreasing_trivial_pre_omega
        refine while_inv (fun k e => ∃ A p, p ∈ allP n ∧ Sn n (S ++ A) ∧ A.length + k = n * n + 1 ∧ O = A ++ orbC n m k (S ++ A) p ∧ e = [.val (.int n), .val (dM m), .own (.dic true (kvA dP (fun _ => .bl true) (S ++ A))), .own (.lst (R.map dLP)), .val (.int (i : Int)), .val (.int (j : Int)), .val (dP p), .own (.lst (A.map dP))]) (n * n + 1) ⟨[], _, hp, by rw [List.append_nil]; exact hS, by simp, by rw [List.append_nil]; exact hO.symm, by rw [List.append_nil] <;> rfl⟩ ?_
        rintro k e ⟨A, p, hpp, hSA, hk, hOA, rfl⟩ K3 hK3
        have hSAl := hSA.len
        rw [List.length_append] at hSAl
        decreasing_trivial_pre_omega
        refine ite_ni (fun hnot2 => ?_) fun hin2 => ?_
        · have hnot2 : p ∉ S ++ A := hnot2
          obtain ⟨k, rfl⟩ : ∃ k', k = k' + 1 := ⟨k - 1, by omega⟩
          rw [orbC_step hnot2] at hOA
          have hput : dput (kvA dP (fun _ => .bl true) (S ++ A)) (dP p) (.bl true) = kvA dP (fun _ => .bl true) (S ++ (A ++ [p])) := by
            rw [← List.append_assoc]
            exact kvA_put dP_inj (v := fun _ => D.bl true) hnot2
          have hadd := hSA.add hpp hnot2
          rw [List.append_assoc] at hadd hOA
          have hsl2 : (kvA dP (fun _ => D.bl true) (S ++ A)).length < sizeLine := by
            rw [kvA_len, List.length_append]
            exact sl_of (by omega)
          have hsl3 : (A.map dP).length < sizeLine := by
            rw [List.length_map]
            exact sl_of (by omega)
          decreasing_trivial_pre_omega
          rw [hput]
          exact hK3 k _ (by omega) ⟨A ++ [p], _, ledP_in hn p m, hadd, by rw [List.length_append]; show A.length + 1 + k = _; omega, by rw [hOA, List.append_assoc] <;> rfl, by rw [List.map_append] <;> rfl⟩
        · have hin2 : p ∈ S ++ A := hin2
          rw [orbC_end hin2, List.append_nil] at hOA
          subst hOA
          decreasing_trivial_pre_omega
          exact hK2 _ ⟨by omega, hSA, by show (R ++ [O]).length ≤ _; rw [List.length_append]; show R.length + 1 ≤ _; omega, _, _, _, by rw [List.map_append, Int.zero_add] <;> rfl⟩
      · have hin : (((i : Int), (j : Int)) : Pl) ∈ S := hin
        have hst : rndS n m (R, S) ((i : Int), (j : Int)) = (R, S) := if_pos hin
        rw [hst] at hK2
        exact hK2 _ ⟨by omega, hS, by show R.length ≤ _; omega, .val (.int (j : Int)), .val (dPl i j), s7, by simp only [Int.zero_add]⟩
theorem h_power : ∀ ds P Xp, ds.length = M_power.length → F_power ds P Xp → t_power (bodyE P Xp) (startE M_power ds N_power.length) := by
  intro ds P Xp hlen_ h
  obtain ⟨b, t, rfl, ht, hb, h⟩ := h
  (rw [e_power]; decreasing_trivial_pre_omega)
  rw [Int.toNat_natCast]
  refine for_nat (fun i e => i ≤ t ∧ ∃ s3, e = [.val (.int b), .val (.int t), .val (.int ((b ^ i : Nat) : Int)), s3]) ⟨by omega, _, rfl⟩ ?_ ?_
  · rintro e ⟨_, s3, rfl⟩
    rw [rg_len]
    decreasing_trivial_pre_omega
    exact h
  · rintro i d e hd ⟨_, s3, rfl⟩ K hK
    obtain ⟨hi, rfl⟩ := rg_get hd
    have hmo : mulOk ((b ^ i : Nat) : Int) (b : Int) := pow_mul (by omega) hb
    decreasing_trivial_pre_omega
    exact hK _ ⟨by omega, _, by rw [Nat.pow_succ, Int.natCast_mul] <;> rfl⟩
theorem h_count_of : ∀ ds P Xp, ds.length = M_count_of.length → F_count_of ds P Xp → t_count_of (bodyE P Xp) (startE M_count_of ds N_count_of.length) := by
  intro ds P Xp hlen_ h
  obtain ⟨n, c, rfl, hn, h8, hc, h⟩ := h
  have hnn : n * n ≤ 8 * 8 := Nat.mul_le_mul h8 h8
  have hnp : 0 < n * n := Nat.mul_pos hn hn
  have hml : ((allM n).map dM).length = 8 * (n * n) := by rw [List.length_map, allM_len]
  have hrl := rndC_len n
  (rw [e_count_of]; decreasing_trivial_pre_omega)
  rw [Int.toNat_natCast]
  refine lc_map (onM fun m => .int ((c ^ (rndC n m).length : Nat) : Int)) (by rw [hml]; exact sle_of (by omega)) ?_ ?_
  · have e : ((allM n).map dM).map (onM fun m => .int ((c ^ (rndC n m).length : Nat) : Int)) = ((allM n).map fun m => ((c ^ (rndC n m).length : Nat) : Int)).map D.int := by
      rw [List.map_map, List.map_map]
      exact List.map_congr_left fun m _ => onM_at _ m
    rw [e]
    have e2 : ((allM n).map fun m => ((c ^ (rndC n m).length : Nat) : Int)).sum = (cntT n c : Nat) := sum_cast _ _
    have hdv : CDivW ((cntT n c : Nat) : Int) (((allM n).map dM).length : Nat) := by rw [hml]; exact ⟨by omega, log2_lt (by omega)⟩
    decreasing_trivial_pre_omega
    rw [e2]
    decreasing_trivial_pre_omega
    have e3 : ((cntT n c : Nat) : Int) / ((((allM n).map dM).length : Nat) : Int) = ((cntB n c : Nat) : Int) := by
      rw [hml]
      unfold cntB
      exact (Int.natCast_ediv _ _).symm
    rw [e3]
    exact h
  · intro d hd K hK
    obtain ⟨m, hm, rfl⟩ := List.mem_map.mp hd
    rw [onM_at] at hK
    have h1 := hrl m
    have h2 : ∀ x, ((rndC n x).map dLP).length = (rndC n x).length := fun _ => List.length_map _
    decreasing_trivial_pre_omega
    rw [h2]
    refine ⟨Nat.le_trans (hrl _) (by omega), hc, ?_⟩
    decreasing_trivial_pre_omega
    exact hK
theorem h_carpet_by : ∀ ds P Xp, ds.length = M_carpet_by.length → F_carpet_by ds P Xp → t_carpet_by (bodyE P Xp) (startE M_carpet_by ds N_carpet_by.length) := by
  intro ds P Xp hlen_ h
  obtain ⟨n, c, code, rfl, hn, h8, hc0, hc, h⟩ := h
  have hc0' : (0 : Int) < c := by omega
  (rw [e_carpet_by]; decreasing_trivial_pre_omega)
  rw [Int.toNat_natCast]
  refine for_nat (fun i e => i ≤ n ∧ ∃ s4 s5 s6, e = [.val (.int n), .val (.int c), .val (.int ((code / c ^ (n * i) : Nat) : Int)), .own (.lst ((List.range i).map fun r => .str (rowS n (dig n (wC n c code) (r : Nat))))), s4, s5, s6]) ⟨by omega, _, _, _, by rw [Nat.mul_zero, Nat.pow_zero, Nat.div_one] <;> rfl⟩ ?_ ?_
  · rintro e ⟨_, s4, s5, s6, rfl⟩
    rw [rg_len]
    decreasing_trivial_pre_omega
    exact h
  · rintro i d e hd ⟨_, s4, s5, s6, rfl⟩ K hK
    obtain ⟨hi, rfl⟩ := rg_get hd
    have hsl : ((List.range i).map fun r => D.str (rowS n (dig n (wC n c code) (r : Nat)))).length < sizeLine := by rw [List.length_map, List.length_range]; exact sl_of (by omega)
    decreasing_trivial_pre_omega
    rw [Int.toNat_natCast]
    refine for_nat (fun j e => j ≤ n ∧ ∃ s6, e = [.val (.int n), .val (.int c), .val (.int ((code / c ^ (n * i + j) : Nat) : Int)), .own (.lst ((List.range i).map fun r => .str (rowS n (dig n (wC n c code) (r : Nat))))), .val (.int (0 + (i : Int))), .val (.str (rowS j (dig n (wC n c code) (i : Nat)))), s6]) ⟨by omega, _, by rw [Nat.add_zero, row_nil] <;> rfl⟩ ?_ ?_
    · rintro e ⟨_, s6, rfl⟩
      rw [rg_len]
      decreasing_trivial_pre_omega
      exact hK _ ⟨by omega, _, _, _, by rw [Nat.mul_succ, List.range_succ, List.map_append] <;> rfl⟩
    · rintro j d e hd2 ⟨_, s6, rfl⟩ K2 hK2
      obtain ⟨hj, rfl⟩ := rg_get hd2
      have e1 : abcL (((code / c ^ (n * i + j) : Nat) : Int) % (c : Int)) = dig n (wC n c code) (i : Nat) (j : Nat) := by
        rw [wC_row hi hj]
        unfold abcL
        rw [← Int.natCast_emod, Int.toNat_natCast]
      have e2 : ((code / c ^ (n * i + j) : Nat) : Int) / (c : Int) = ((code / c ^ (n * i + (j + 1)) : Nat) : Int) := by
        rw [← Int.natCast_ediv, Nat.div_div_eq_div_mul, ← Nat.pow_succ] <;> rfl
      decreasing_trivial_pre_omega
      rw [e1, e2]
      have e3 : rowS (j + 1) (updG (dig n (wC n c code) (i : Nat)) (j : Nat) (dig n (wC n c code) (i : Nat) (j : Nat))) = rowS (j + 1) (dig n (wC n c code) (i : Nat)) := rowS_ext.mpr fun q h0 h1 => by
        unfold updG
        split
        · rename_i z; rw [z]
        · rfl
      exact hK2 _ ⟨by omega, _, by rw [Int.zero_add, e3] <;> rfl⟩
theorem h_all_forms : ∀ ds P Xp, ds.length = M_all_forms.length → F_all_forms ds P Xp → t_all_forms (bodyE P Xp) (startE M_all_forms ds N_all_forms.length) := by
  intro ds P Xp hlen_ h
  obtain ⟨n, c, rfl, hn, h8, hc0, hc, h1, h2⟩ := h
  have hnn : n * n ≤ 8 * 8 := Nat.mul_le_mul h8 h8
  have esq : (n : Int) * (n : Int) = ((n * n : Nat) : Int) := by push_cast; rfl
  by_cases hb : 600 < c ^ (n * n)
  · have h1 := h1 hb
    have hb' : (600 : Int) < ((c ^ (n * n) : Nat) : Int) := by omega
    (rw [e_all_forms]; decreasing_trivial_pre_omega)
    exact h1
  · have h2 := h2 hb
    have hb' : ¬ (600 : Int) < ((c ^ (n * n) : Nat) : Int) := by omega
    have hn' : (0 : Int) < n := by omega
    (rw [e_all_forms]; decreasing_trivial_pre_omega)
    rw [Int.toNat_natCast]
    refine for_nat (fun i e => i ≤ c ^ (n * n) ∧ ∃ S F s5 s6 s7 s8 s9, FI n c i S F ∧ e = [.val (.int n), .val (.int c), .val (.int ((c ^ (n * n) : Nat) : Int)), .own (.dic true (kvA (kW n) (fun _ => .bl true) S)), .own (.lst (F.map (dW n))), s5, s6, s7, s8, s9]) ⟨by omega, [], [], _, _, _, _, _, FI.nil, rfl⟩ ?_ ?_
    · rintro e ⟨_, S, F, s5, s6, s7, s8, s9, hI, rfl⟩
      rw [rg_len] at hI
      decreasing_trivial_pre_omega
      intro L hL
      decreasing_trivial_pre_omega
      exact h2 L hL
    · rintro i d e hd ⟨_, S, F, s5, s6, s7, s8, s9, hI, rfl⟩ K hK
      obtain ⟨hi, rfl⟩ := rg_get hd
      rw [Int.zero_add]
      have hv := wC_vl (n := n) (code := i) hc0
      have hvl := hv.len
      obtain ⟨hSl, hFl⟩ := hI.len hn hc0
      have hFs : (F.map (dW n)).length < sizeLine := by rw [List.length_map]; exact sl_of (by omega)
      have hcd : okC (dig n (wC n c i)) := okA_okC (okA_dig hc hc0 hv)
      have hal := allM_len n
      decreasing_trivial_pre_omega
      refine ite_ni (fun hnot => ?_) fun hin => ?_
      · decreasing_trivial_pre_omega
        rw [Int.toNat_natCast]
        refine lc_map (mvWF n (wC n c i)) (by rw [List.length_map, hal]; exact sle_of (by omega)) ?_ ?_
        · rw [mvWF_map]
          decreasing_trivial_pre_omega
          refine for_nat (fun j e => j ≤ (allM n).length ∧ ∃ s8, e = [.val (.int n), .val (.int c), .val (.int ((c ^ (n * n) : Nat) : Int)), .own (.dic true (kvA (kW n) (fun _ => .bl true) (orbW n S (wC n c i) ((allM n).take j)))), .own (.lst (F.map (dW n))), .val (.int (i : Int)), .val (cpD n (dig n (wC n c i))), .bor (.lst ((allM n).map fun m => dW n (movW n m (wC n c i)))), s8, .emp]) ⟨by omega, _, rfl⟩ ?_ ?_
          · rintro e ⟨_, s8, rfl⟩
            rw [List.length_map, List.take_length]
            decreasing_trivial_pre_omega
            intro a ha hl
            decreasing_trivial_pre_omega
            exact hK _ ⟨by omega, _, _, _, _, _, _, _, hI.new hn hc0 hnot ha hl, by rw [List.map_append] <;> rfl⟩
          · rintro j d e hd2 ⟨_, s8, rfl⟩ K2 hK2
            rw [List.getElem?_map] at hd2
            obtain ⟨m, hm, rfl⟩ := Option.map_eq_some_iff.mp hd2
            have hj := (List.getElem?_eq_some_iff.mp hm).1
            have hml := movW_len n m (wC n c i)
            have hks : keyOk true (dW n (movW n m (wC n c i))) = true := dW_key _ _
            have hol : (kvA (kW n) (fun _ => D.bl true) (orbW n S (wC n c i) ((allM n).take j))).length < sizeLine := by
              rw [kvA_len]
              have := orbW_len (n := n) (w := wC n c i) (ms := (allM n).take j) (S := S)
              rw [List.length_take] at this
              exact sl_of (by omega)
            decreasing_trivial_pre_omega
            rw [put_kW hml]
            exact hK2 _ ⟨by omega, _, by rw [List.take_add_one, hm, Option.toList_some, orbW_snoc] <;> rfl⟩
        · rintro d hd K2 hK2
          obtain ⟨m, hm, rfl⟩ := List.mem_map.mp hd
          have ok := mem_allM.mp hm
          have e : mvWF n (wC n c i) (dM m) = cpD n (movF n m (dig n (wC n c i))) := by
            rw [dW_mov]
            show dW n (movW n (unM (dM m)) _) = _
            rw [unM_dM]
          rw [e] at hK2
          decreasing_trivial_pre_omega
          exact hK2
      · exact hK _ ⟨by omega, _, _, _, _, _, _, _, hI.old hn hc0 hin, rfl⟩
theorem h_L_cell_at : ∀ ds P Xp, ds.length = M_L_cell_at.length → F_L_cell_at ds P Xp → t_L_cell_at (bodyE P Xp) (startE M_L_cell_at ds N_L_cell_at.length) := by
  intro ds P Xp hlen_ h
  obtain ⟨ns, k, rfl, h0, h⟩ := h
  have hll : (ns.map D.int).length = ns.length := List.length_map ..
  by_cases hk : k < (ns.map D.int).length
  · have hc := cellAt_get (ns := ns) h0 (by rw [List.length_map] at hk; exact hk)
    (rw [e_L_cell_at]; decreasing_trivial_pre_omega)
    exact h
  · rw [cellAt_out (by rw [List.length_map] at hk; exact hk)] at h
    (rw [e_L_cell_at]; decreasing_trivial_pre_omega)
    exact h
theorem h_L_mixed : ∀ ds P Xp, ds.length = M_L_mixed.length → F_L_mixed ds P Xp → t_L_mixed (bodyE P Xp) (startE M_L_mixed ds N_L_mixed.length) := by
  intro ds P Xp hlen_ h
  obtain ⟨c, k, rfl, h0, h1, h⟩ := h
  have hkk : 0 ≤ k * k ∧ k * k ≤ 1000 * 1000 := ⟨Int.mul_nonneg h0 h0, Int.mul_le_mul h1 h1 h0 (by omega)⟩
  have hk2 : 2 * k * k = 2 * (k * k) := Int.mul_assoc ..
  (rw [e_L_mixed]; decreasing_trivial_pre_omega)
  exact h _ rfl (Int.emod_nonneg _ (by decide)) (Int.emod_lt_of_pos _ (by decide))
theorem h_L_led : ∀ ds P Xp, ds.length = M_L_led.length → F_L_led ds P Xp → t_L_led (bodyE P Xp) (startE M_L_led ds N_L_led.length) := by
  intro ds P Xp hlen_ h
  obtain ⟨n, ⟨w, d, r⟩, y, x, rfl, hn, h⟩ := h
  simp only [lR, lC] at h
  cases w <;> (simp only [gR, gC] at h; simp only [dM_stay', dM_turn', dM_half', dM_back', dM_side, dM_flip, dM_cross, dM_other, ← Int.zero_sub] at *; rw [e_L_led]; decreasing_trivial_pre_omega; exact h)
theorem h_L_moved : ∀ ds P Xp, ds.length = M_L_moved.length → F_L_moved ds P Xp → t_L_moved (bodyE P Xp) (startE M_L_moved ds N_L_moved.length) := by
  intro ds P Xp hlen_ h
  obtain ⟨n, f, m, rfl, hn, h100, hok, h⟩ := h
  have hn' : (0 : Int) < n := by omega
  (rw [e_L_moved]; decreasing_trivial_pre_omega)
  refine for_nat (fun i e => i ≤ n ∧ ∃ kvs s4 s5, kvs.length ≤ i * n ∧ (∀ r c : Int, 0 ≤ r → r < i → 0 ≤ c → c < n → dget kvs (dPl (lR n m.w m.d r c) (lC n m.w m.r r c)) = some (sgn (f r c))) ∧ e = [.val (cpD n f), .val (dM m), .val (.int n), .own (.dic true kvs), s4, s5]) ⟨by omega, [], _, _, by simp, by intros; omega, rfl⟩ ?_ ?_
  · rintro e ⟨_, kvs, s4, s5, hl, hg, rfl⟩
    rw [rg_len, Int.toNat_natCast] at hg
    decreasing_trivial_pre_omega
    rw [Int.toNat_natCast]
    refine lc_mapI (rowF n (movF n m f)) (fun e => ∃ s5, e = [.val (cpD n f), .val (dM m), .val (.int n), .own (.dic true kvs), .emp, s5]) (by rw [rg_len]; exact sle_of (by omega)) ⟨_, rfl⟩ ?_ ?_
    · rintro e ⟨s5, rfl⟩
      decreasing_trivial_pre_omega
      rw [rowF_cp]
      exact h
    · rintro d hd e ⟨s5, rfl⟩ K hK
      obtain ⟨i, hi, rfl⟩ := mem_rg hd
      decreasing_trivial_pre_omega
      rw [Int.toNat_natCast]
      refine lc_map (sgnF (movF n m f (0 + (i : Int)))) (by rw [rg_len]; exact sle_of (by omega)) ?_ ?_
      · decreasing_trivial_pre_omega
        exact hK _ ⟨_, rfl⟩
      · rintro d hd K2 hK2
        obtain ⟨j, hj, rfl⟩ := mem_rg hd
        have o := lR_ok hn' (inv n m).w (inv n m).d (0 + (i : Int)) (0 + (j : Int))
        have o2 := lC_ok hn' (inv n m).w (inv n m).r (0 + (i : Int)) (0 + (j : Int))
        have q := hg _ _ o.1 o.2 o2.1 o2.2
        have b := led_there hn m hok (r := 0 + (i : Int)) (c := 0 + (j : Int)) (by omega) (by omega) (by omega) (by omega)
        rw [b.1, b.2] at q
        decreasing_trivial_pre_omega
        exact hK2
  · rintro i d e hd ⟨_, kvs, s4, s5, hl, hg, rfl⟩ K hK
    obtain ⟨hi, rfl⟩ := rg_get hd
    rw [Int.toNat_natCast] at hi
    have hin : i * n ≤ 100 * 100 := Nat.mul_le_mul (by omega) h100
    decreasing_trivial_pre_omega
    refine for_nat (fun j e => j ≤ n ∧ ∃ kvs s5, kvs.length ≤ i * n + j ∧ (∀ r c : Int, 0 ≤ r → 0 ≤ c → c < n → (r < i ∨ (r = i ∧ c < j)) → dget kvs (dPl (lR n m.w m.d r c) (lC n m.w m.r r c)) = some (sgn (f r c))) ∧ e = [.val (cpD n f), .val (dM m), .val (.int n), .own (.dic true kvs), .val (.int (0 + (i : Int))), s5]) ⟨by omega, kvs, _, by omega, fun r c h0 h1 h2 h3 => hg r c h0 (by omega) h1 h2, rfl⟩ ?_ ?_
    · rintro e ⟨_, kvs, s5, hl, hg, rfl⟩
      rw [rg_len, Int.toNat_natCast] at hg hl
      refine hK _ ⟨by omega, kvs, _, _, by rw [Nat.succ_mul]; exact hl, fun r c h0 h1 h2 h3 => hg r c h0 h2 h3 (by omega), rfl⟩
    · rintro j d e hd2 ⟨_, kvs, s5, hl, hg, rfl⟩ K2 hK2
      obtain ⟨hj, rfl⟩ := rg_get hd2
      rw [Int.toNat_natCast] at hj
      have hsl : kvs.length < sizeLine := sl_of (by omega)
      decreasing_trivial_pre_omega
      refine hK2 _ ⟨by omega, _, _, Nat.le_trans (dput_len _ _ _) (by omega), fun r c h0 h1 h2 h3 => ?_, rfl⟩
      rw [dget_put]
      have hr : r < n := by omega
      split
      · rename_i e
        have e := dPl_inj e
        have b1 := led_back hn m h0 hr h1 h2
        have b2 := led_back hn m (r := 0 + (i : Int)) (c := 0 + (j : Int)) (by omega) (by omega) (by omega) (by omega)
        rw [e.1, e.2, b2.1, b2.2] at b1
        rw [b1.1, b1.2]
      · rename_i e
        refine hg r c h0 h1 h2 ?_
        by_cases hh : r = i ∧ c = j
        · exact absurd (by rw [hh.1, hh.2, Int.zero_add, Int.zero_add]) e
        · omega
theorem h_L_all : ∀ ds P Xp, ds.length = M_L_all.length → F_L_all ds P Xp → t_L_all (bodyE P Xp) (startE M_L_all ds N_L_all.length) := by
  intro ds P Xp hlen_ h
  obtain ⟨n, rfl, hn, h⟩ := h
  (rw [e_L_all]; decreasing_trivial_pre_omega)
  refine for_nat (fun i e => i ≤ 8 ∧ ∃ s2 s3 s4, e = [.val (.int n), .own (.lst ((allOf (ways.take i) n).map dM)), s2, s3, s4]) ⟨by omega, _, _, _, rfl⟩ ?_ ?_
  · rintro e ⟨_, s2, s3, s4, rfl⟩
    decreasing_trivial_pre_omega
    exact h
  · rintro i d e hd ⟨_, s2, s3, s4, rfl⟩ K hK
    have hi : i < 8 := (List.getElem?_eq_some_iff.mp hd).1
    obtain ⟨w, hw1, rfl⟩ := ways_get hd
    have hl1 := allOf_len (ways.take i) n
    rw [List.length_take, show ways.length = 8 from rfl, Nat.min_eq_left (by omega)] at hl1
    have hnn : n * n ≤ 64 := Nat.mul_le_mul hn hn
    have hl2 : i * (n * n) ≤ 7 * 64 := Nat.mul_le_mul (by omega) hnn
    decreasing_trivial_pre_omega
    refine for_nat (fun j e => j ≤ n ∧ ∃ s3 s4, e = [.val (.int n), .own (.lst ((allOf (ways.take i) n ++ (List.range j).flatMap fun d => rowM w (d : Nat) n).map dM)), .val (.str w.str), s3, s4]) ⟨by omega, _, _, by simp; rfl⟩ ?_ ?_
    · rintro e ⟨_, s3, s4, rfl⟩
      exact hK _ ⟨by omega, _, _, _, by rw [rg_len, Int.toNat_natCast, allOf_take hw1] <;> rfl⟩
    · rintro j d e hd2 ⟨_, s3, s4, rfl⟩ K2 hK2
      obtain ⟨hj, rfl⟩ := rg_get hd2
      rw [Int.toNat_natCast] at hj
      have hl3 := rows_len w n j
      have hl4 : j * n ≤ 7 * 8 := Nat.mul_le_mul (by omega) hn
      decreasing_trivial_pre_omega
      refine for_nat (fun k e => k ≤ n ∧ ∃ s4, e = [.val (.int n), .own (.lst ((allOf (ways.take i) n ++ ((List.range j).flatMap fun d => rowM w (d : Nat) n) ++ rowM w (j : Nat) k).map dM)), .val (.str w.str), .val (.int (0 + (j : Int))), s4]) ⟨by omega, _, by simp [rowM]; rfl⟩ ?_ ?_
      · rintro e ⟨_, s4, rfl⟩
        have e : allOf (ways.take i) n ++ ((List.range (j + 1)).flatMap fun d => rowM w (d : Nat) n) = allOf (ways.take i) n ++ ((List.range j).flatMap fun d => rowM w (d : Nat) n) ++ rowM w (j : Nat) n := by
          rw [List.range_succ, List.flatMap_append, List.append_assoc, List.flatMap_cons, List.flatMap_nil, List.append_nil]
        exact hK2 _ ⟨by omega, _, _, by rw [rg_len, Int.toNat_natCast, e] <;> rfl⟩
      · rintro k d e hd3 ⟨_, s4, rfl⟩ K3 hK3
        obtain ⟨hk, rfl⟩ := rg_get hd3
        rw [Int.toNat_natCast] at hk
        have hb : ((allOf (ways.take i) n ++ ((List.range j).flatMap fun d => rowM w (d : Nat) n) ++ rowM w (j : Nat) k).map dM).length < sizeLine := by
          have e : sizeLine = 16777216 := by decide
          rw [List.length_map, List.length_append, List.length_append, hl1, hl3, e]
          have : (rowM w (j : Nat) k).length = k := by simp [rowM]
          omega
        decreasing_trivial_pre_omega
        have e : (allOf (ways.take i) n ++ ((List.range j).flatMap fun d => rowM w (d : Nat) n) ++ rowM w (j : Nat) (k + 1)).map dM = (allOf (ways.take i) n ++ ((List.range j).flatMap fun d => rowM w (d : Nat) n) ++ rowM w (j : Nat) k).map dM ++ [.tup [.str w.str, .int (0 + (j : Int)), .int (0 + (k : Int))]] := by
          rw [rowM_succ, ← List.append_assoc, List.map_append (l₂ := [_]), Int.zero_add, Int.zero_add]; rfl
        exact hK3 _ ⟨by omega, _, by rw [e]⟩
theorem h_L_carpet : ∀ ds P Xp, ds.length = M_L_carpet.length → F_L_carpet ds P Xp → t_L_carpet (bodyE P Xp) (startE M_L_carpet ds N_L_carpet.length) := by
  intro ds P Xp hlen_ h
  obtain ⟨n, c, x, rfl, hn, h8, hc0, hc, h⟩ := h
  have hc0' : (0 : Int) < c := by omega
  have hnn : n * n ≤ 8 * 8 := Nat.mul_le_mul h8 h8
  obtain ⟨w, hw, ew⟩ : ∃ w, Vl n c w ∧ ∀ r q : Nat, r < n → q < n → dig n w (r : Nat) (q : Nat) = abcL (mixB x ((0 + (r : Int)) * n + (0 + (q : Int))) % c) := by
    refine ⟨(List.range (n * n)).map fun p => (mixB x (p : Nat) % c).toNat, ⟨by simp, fun d hd => ?_⟩, fun r q hr hq => ?_⟩
    · obtain ⟨p, _, rfl⟩ := List.mem_map.mp hd
      have := Int.emod_lt_of_pos (mixB x (p : Nat)) hc0'
      have := Int.emod_nonneg (mixB x (p : Nat)) (show (c : Int) ≠ 0 by omega)
      omega
    · have hlt : n * r + q < n * n := by
        have : n * (r + 1) ≤ n * n := Nat.mul_le_mul_left _ hr
        rw [Nat.mul_add, Nat.mul_one] at this
        omega
      show 97 + List.getD _ ((n : Int) * (r : Int) + (q : Int)).toNat 0 = _
      rw [← Int.natCast_mul, ← Int.natCast_add, Int.toNat_natCast, List.getD_eq_getElem?_getD, List.getElem?_map, List.getElem?_range hlt]
      show 97 + (mixB x ((n * r + q : Nat) : Int) % c).toNat = _
      rw [Int.zero_add, Int.zero_add]
      have e : ((n * r + q : Nat) : Int) = (r : Int) * n + q := by push_cast; rw [Int.mul_comm]
      rw [e]
      rfl
  have h := h w hw
  have hmr : ∀ r q : Int, 0 ≤ r → r < n → 0 ≤ q → q < n → 0 ≤ r * n ∧ r * n ≤ 8 * 8 := fun r q h0 h1 _ _ => ⟨Int.mul_nonneg h0 (by omega), Int.mul_le_mul (by omega) (by omega) (by omega) (by omega)⟩
  (rw [e_L_carpet]; decreasing_trivial_pre_omega)
  rw [Int.toNat_natCast]
  refine lc_map (digF n w) (by rw [rg_len]; exact sle_of (by omega)) ?_ ?_
  · rw [digF_map]
    decreasing_trivial_pre_omega
    exact h
  · rintro d hd K hK
    obtain ⟨r, hr, rfl⟩ := mem_rg hd
    rw [digF_at] at hK
    decreasing_trivial_pre_omega
    rw [Int.toNat_natCast]
    refine lc_map (sgnF (dig n w (r : Nat))) (by rw [rg_len]; exact sle_of (by omega)) ?_ ?_
    · decreasing_trivial_pre_omega
      exact hK
    · rintro d hd K2 hK2
      obtain ⟨q, hq, rfl⟩ := mem_rg hd
      have hm2 := hmr (0 + (r : Int)) (0 + (q : Int)) (by omega) (by omega) (by omega) (by omega)
      have e : sgnF (dig n w (r : Nat)) (.int (0 + (q : Int))) = sgn (abcL (mixB x ((0 + (r : Int)) * n + (0 + (q : Int))) % c)) := by
        rw [← ew r q hr hq]
        show sgn (dig n w (r : Nat) (0 + (q : Int))) = _
        rw [Int.zero_add]
      rw [e] at hK2
      decreasing_trivial_pre_omega
      intro z hz _ _
      subst hz
      decreasing_trivial_pre_omega
      exact hK2
theorem h_L_least : ∀ ds P Xp, ds.length = M_L_least.length → F_L_least ds P Xp → t_L_least (bodyE P Xp) (startE M_L_least ds N_L_least.length) := by
  intro ds P Xp hlen_ h
  obtain ⟨n, f, rfl, hn, h8, hf, h⟩ := h
  have hnn : n * n ≤ 8 * 8 := Nat.mul_le_mul h8 h8
  have hal := allW_len n
  have hne : allW n ≠ [] := fun e => by
    have hs : stayM ∈ allW n := mem_allW.mpr (stayM_ok (by omega))
    rw [e] at hs; cases hs
  (rw [e_L_least]; decreasing_trivial_pre_omega)
  refine lc_map (lmF n f) (by rw [List.length_map, hal]; exact sle_of (by omega)) ?_ ?_
  · rw [lmF_map]
    refine ⟨_, rfl, ?_⟩
    refine min_cps hn hf hne (fun m hm => mem_allW.mp hm) fun a ha hl => ?_
    have h2 := h a ⟨mem_allW.mp ha, fun m' hm' => hl m' (mem_allW.mpr hm')⟩
    decreasing_trivial_pre_omega
    exact h2
  · rintro d hd K hK
    obtain ⟨m, hm, rfl⟩ := List.mem_map.mp hd
    have ok := mem_allW.mp hm
    have e : lmF n f (dM m) = cpD n (movF n m f) := by
      show cpD n (movF n (unM (dM m)) f) = _
      rw [unM_dM]
    rw [e] at hK
    decreasing_trivial_pre_omega
    exact hK
theorem h_law : ∀ ds P Xp, ds.length = M_law.length → F_law ds P Xp → t_law (bodyE P Xp) (startE M_law ds N_law.length) := by
  intro ds P Xp hlen_ h
  obtain ⟨ns, rfl, hl, h⟩ := h
  (rw [e_law]; decreasing_trivial_pre_omega)
  intro seed _ hs0 hs1
  obtain ⟨n, hat, hn123⟩ : ∃ n : Nat, L2.atI [D.int 1, .int 2, .int 2, .int 3] (seed % 4) = some (.int n) ∧ (n = 1 ∨ n = 2 ∨ n = 3) := by
    have e : seed % 4 = 0 ∨ seed % 4 = 1 ∨ seed % 4 = 2 ∨ seed % 4 = 3 := by omega
    rcases e with e | e | e | e <;> rw [e]
    · exact ⟨1, rfl, by decide⟩
    · exact ⟨2, rfl, by decide⟩
    · exact ⟨2, rfl, by decide⟩
    · exact ⟨3, rfl, by decide⟩
  have hn : 0 < n := by omega
  have h8 : n ≤ 8 := by omega
  have hn' : (0 : Int) < n := by omega
  obtain ⟨c0, hat0, hc00, hc01, hcp0, hpr0⟩ : ∃ c : Nat, L2.atI [D.int (1 + seed / 4 % 26), .int (1 + seed / 4 % 3), .int 1] ((n : Int) - 1) = some (.int c) ∧ 0 < c ∧ c ≤ 26 ∧ c ^ (n * n) ≤ 600 ∧ (n, c) ∈ pairs2 := by
    rcases hn123 with rfl | rfl | rfl
    · obtain ⟨k, hk⟩ : ∃ k : Nat, seed / 4 % 26 = (k : Int) := ⟨(seed / 4 % 26).toNat, by omega⟩
      refine ⟨k + 1, ?_, by omega, by omega, by simp; omega, pairs2_1 (by omega)⟩
      show some (D.int (1 + seed / 4 % 26)) = _
      rw [hk, show (1 : Int) + (k : Int) = ((k + 1 : Nat) : Int) by omega]
    · have hc : seed / 4 % 3 = 0 ∨ seed / 4 % 3 = 1 ∨ seed / 4 % 3 = 2 := by omega
      show ∃ c : Nat, some (D.int (1 + seed / 4 % 3)) = _ ∧ _
      rcases hc with e | e | e <;> rw [e]
      · exact ⟨1, rfl, by decide, by decide, by decide, by decide⟩
      · exact ⟨2, rfl, by decide, by decide, by decide, by decide⟩
      · exact ⟨3, rfl, by decide, by decide, by decide, by decide⟩
    · exact ⟨1, rfl, by decide, by decide, by decide, by decide⟩
  obtain ⟨c1, hat1, hc10, hc11, hcp1, hpr1⟩ : ∃ c : Nat, L2.atI [D.int c0, .int 4, .int 2] ((n : Int) - 1) = some (.int c) ∧ 0 < c ∧ c ≤ 26 ∧ c ^ (n * n) ≤ 600 ∧ (n, c) ∈ pairs2 := by
    rcases hn123 with rfl | rfl | rfl
    · exact ⟨c0, rfl, hc00, hc01, hcp0, hpr0⟩
    · exact ⟨4, rfl, by decide, by decide, by decide, by decide⟩
    · exact ⟨2, rfl, by decide, by decide, by decide, by decide⟩
  decreasing_trivial_pre_omega
  refine ite_mid (fun e => ∃ c : Nat, 0 < c ∧ c ≤ 26 ∧ c ^ (n * n) ≤ 600 ∧ (n, c) ∈ pairs2 ∧ e = [.bor (.lst (ns.map D.int)), .val (.int seed), .val (.int n), .val (.int c), .emp, .emp, .emp, .emp, .emp]) ?_ (fun hq K hK => ?_) fun hq K hK => ?_
  · rintro e ⟨c, hc0, hc, hcp, hpr, rfl⟩
    clear hat0 hat1
    have hcp' : ¬ 600 < c ^ (n * n) := by omega
    decreasing_trivial_pre_omega
    refine fun _ L hL => ?_
    obtain ⟨hLc, hL64⟩ := forms_cnt hL hpr hn123 hc
    have hok := forms_ok (show c ≤ 1000 by omega) hL
    have hok59 : D.okL 59 (L.map (dW n)) = true := okL_all fun x hx => by
      obtain ⟨y, hy, rfl⟩ := List.mem_map.mp hx
      exact ok_dW (by omega) ((hL.mem y).mp hy).1
    have hLe : ((L.map (dW n)).length : Int) = ((cntB n c : Nat) : Int) := by rw [List.length_map, hLc]
    have hLz : (L.map (dW n)).length ≤ sizeLine := by rw [List.length_map]; exact sle_of (by omega)
    have hLp : 0 < L.length := by
      obtain ⟨m, hm⟩ := least_ex hn (okC_dig (n := n) (w := wC n c 0) fun d hd => Nat.lt_of_lt_of_le ((wC_vl hc0).lt d hd) (by omega))
      obtain ⟨j, hj, _⟩ := form_at hn hL (wC_vl hc0) hm
      omega
    have hLp' : (0 : Int) < ((L.map (dW n)).length : Int) := by rw [List.length_map]; omega
    decreasing_trivial_pre_omega
    refine lc_filter (fun _ => false) id hLz ?_ ?_
    · rw [show (L.map (dW n)).filter (fun _ => false) = [] from List.filter_eq_nil_iff.mpr (by simp)]
      decreasing_trivial_pre_omega
      have hst0 := Int.emod_nonneg (seed / 512) (show ((L.map (dW n)).length : Int) ≠ 0 by omega)
      obtain ⟨st, hst⟩ : ∃ st, st = seed / 512 % ((L.map (dW n)).length : Int) := ⟨_, rfl⟩
      rw [← hst]
      have hcl : ∀ lo hi, (cutD (L.map (dW n)) lo hi).length ≤ (L.map (dW n)).length := fun lo hi => by
        unfold cutD
        rw [List.length_take, List.length_drop]
        omega
      have hsl : (cutD (L.map (dW n)) (some st) none).length + (cutD (L.map (dW n)) none (some st)).length ≤ sizeLine := by
        have h1 := hcl (some st) none
        have h2 := hcl none (some st)
        rw [List.length_map] at h1 h2
        exact sle_of (by omega)
      have hsl2 : (cutD (L.map (dW n)) (some st) none ++ cutD (L.map (dW n)) none (some st)).length ≤ sizeLine := by rw [List.length_append]; exact hsl
      refine ⟨hsl, ?_⟩
      decreasing_trivial_pre_omega
      refine for_each (fun e => ∃ s6, e = [.bor (.lst (ns.map D.int)), .val (.int seed), .val (.int n), .val (.int c), .own (.lst (L.map (dW n))), .val (.int st), s6, .emp, .emp]) ⟨_, rfl⟩ ?_ ?_
      · rintro e ⟨s6, rfl⟩
        decreasing_trivial_pre_omega
        intro z hz0 hz1
        decreasing_trivial_pre_omega
        refine for_each (fun e => ∃ s6 s7, e = [.bor (.lst (ns.map D.int)), .val (.int seed), .val (.int n), .val (.int c), .own (.lst (L.map (dW n))), .val (.int st), s6, s7, .emp]) ⟨_, _, rfl⟩ ?_ ?_
        · rintro e ⟨s6, s7, rfl⟩
          have hsl3 : (L.map (dW n)).length < sizeLine := by rw [List.length_map]; exact sl_of (by omega)
          decreasing_trivial_pre_omega
          by_cases hq : seed / 128 % 10 = 0
          · decreasing_trivial_pre_omega
            exact h
          · decreasing_trivial_pre_omega
            refine fun _ L2 hL2 => ?_
            rw [← frm_uniq (show c ≤ 1000 by omega) hL hL2]
            decreasing_trivial_pre_omega
            exact h
        · rintro d hd e ⟨s6, s7, rfl⟩ K hK
          obtain ⟨i, hi, rfl⟩ := mem_rg hd
          have hil : (1 : Int) + (i : Int) < ns.length := by omega
          decreasing_trivial_pre_omega
          intro y
          decreasing_trivial_pre_omega
          intro w hw
          have hfC : okC (dig n w) := okC_dig fun d hd => Nat.lt_of_lt_of_le (hw.lt d hd) (by omega)
          decreasing_trivial_pre_omega
          intro m hm
          have hmo := hm.1
          decreasing_trivial_pre_omega
          exact hK _ ⟨_, _, rfl⟩
      · rintro d hd e ⟨s6, rfl⟩ K hK
        have hd : d ∈ L.map (dW n) := by
          rcases List.mem_append.mp (cut_memD hd) with hd | hd
          · exact cut_memD hd
          · exact cut_memD hd
        obtain ⟨w, hw, rfl⟩ := List.mem_map.mp hd
        have hv := ((hL.mem w).mp hw).1
        have hfC : okC (dig n w) := okC_dig fun d hd => Nat.lt_of_lt_of_le (hv.lt d hd) (by omega)
        have edW : dW n w = cpD n (dig n w) := rfl
        rw [edW]
        decreasing_trivial_pre_omega
        intro m hm
        have hmo := hm.1
        have hfs := form_self hn hc hL hw hm
        rw [edW] at hfs
        rw [hfs]
        decreasing_trivial_pre_omega
        exact hK _ ⟨_, rfl⟩
    · rintro d hd K2 N2 hK2 hN2
      obtain ⟨w, hw, rfl⟩ := List.mem_map.mp hd
      decreasing_trivial_pre_omega
      exact hN2 rfl
  · decreasing_trivial_pre_omega
    exact hK _ ⟨c1, hc10, hc11, hcp1, hpr1, rfl⟩
  · decreasing_trivial_pre_omega
    exact hK _ ⟨c0, hc00, hc01, hcp0, hpr0, rfl⟩
theorem o_turned_place {c : Cfg} {k : Nat} {f : Addr} {fd : FuncData} (Fu : Fun c.K "turned_place" "turned_place" s_turned_place f fd) (g_SIGNS : Glb c "SIGNS" K_SIGNS) : FnOk c.P c.w c.K c.mg c.base (cxC c) (k + 1) f fd ["way", "place"] (spV c M_turned_place F_turned_place) :=
  fn_ok Fu sc_turned_place rfl (b_turned_place g_SIGNS) h_turned_place
theorem o_led {c : Cfg} {k : Nat} {f : Addr} {fd : FuncData} (Fu : Fun c.K "led" "led" s_led f fd) (f_turned_place : FnC (c.lv k) "turned_place" M_turned_place F_turned_place) : FnOk c.P c.w c.K c.mg c.base (cxC c) (k + 1) f fd ["n", "movement", "place"] (spV c M_led F_led) :=
  fn_ok Fu sc_led rfl (b_led f_turned_place) h_led
theorem o_moved {c : Cfg} {k : Nat} {f : Addr} {fd : FuncData} (Fu : Fun c.K "moved" "moved" s_moved f fd) (f_led : FnC (c.lv k) "led" M_led F_led) (m_len : c.mg "len" = none) (m_range : c.mg "range" = none) (m_tuple : c.mg "tuple" = none) : FnOk c.P c.w c.K c.mg c.base (cxC c) (k + 1) f fd ["carpet", "movement"] (spV c M_moved F_moved) :=
  fn_ok Fu sc_moved rfl (b_moved f_led m_len m_range m_tuple) h_moved
theorem o_all_movements {c : Cfg} {k : Nat} {f : Addr} {fd : FuncData} (Fu : Fun c.K "all_movements" "all_movements" s_all_movements f fd) (g_WAYS : Glb c "WAYS" K_WAYS) (m_sorted : c.mg "sorted" = none) (m_range : c.mg "range" = none) : FnOk c.P c.w c.K c.mg c.base (cxC c) (k + 1) f fd ["n"] (spV c M_all_movements F_all_movements) :=
  fn_ok Fu sc_all_movements rfl (b_all_movements g_WAYS m_sorted m_range) h_all_movements
theorem o_rounds {c : Cfg} {k : Nat} {f : Addr} {fd : FuncData} (Fu : Fun c.K "rounds" "rounds" s_rounds f fd) (f_led : FnC (c.lv k) "led" M_led F_led) (m_range : c.mg "range" = none) : FnOk c.P c.w c.K c.mg c.base (cxC c) (k + 1) f fd ["side", "movement"] (spV c M_rounds F_rounds) :=
  fn_ok Fu sc_rounds rfl (b_rounds f_led m_range) h_rounds
theorem o_power {c : Cfg} {k : Nat} {f : Addr} {fd : FuncData} (Fu : Fun c.K "power" "power" s_power f fd) (m_range : c.mg "range" = none) : FnOk c.P c.w c.K c.mg c.base (cxC c) (k + 1) f fd ["number", "times"] (spV c M_power F_power) :=
  fn_ok Fu sc_power rfl (b_power m_range) h_power
theorem o_count_of {c : Cfg} {k : Nat} {f : Addr} {fd : FuncData} (Fu : Fun c.K "count_of" "count_of" s_count_of f fd) (f_all_movements : FnC (c.lv k) "all_movements" M_all_movements F_all_movements) (f_power : FnC (c.lv k) "power" M_power F_power) (f_rounds : FnC (c.lv k) "rounds" M_rounds F_rounds) (m_len : c.mg "len" = none) (m_sum : c.mg "sum" = none) : FnOk c.P c.w c.K c.mg c.base (cxC c) (k + 1) f fd ["side", "colours"] (spV c M_count_of F_count_of) :=
  fn_ok Fu sc_count_of rfl (b_count_of f_all_movements f_power f_rounds m_len m_sum) h_count_of
theorem o_carpet_by {c : Cfg} {k : Nat} {f : Addr} {fd : FuncData} (Fu : Fun c.K "carpet_by" "carpet_by" s_carpet_by f fd) (g_LETTERS : Glb c "LETTERS" K_LETTERS) (m_range : c.mg "range" = none) (m_tuple : c.mg "tuple" = none) : FnOk c.P c.w c.K c.mg c.base (cxC c) (k + 1) f fd ["side", "colours", "code"] (spV c M_carpet_by F_carpet_by) :=
  fn_ok Fu sc_carpet_by rfl (b_carpet_by g_LETTERS m_range m_tuple) h_carpet_by
theorem o_all_forms {c : Cfg} {k : Nat} {f : Addr} {fd : FuncData} (Fu : Fun c.K "all_forms" "all_forms" s_all_forms f fd) (f_power : FnC (c.lv k) "power" M_power F_power) (f_carpet_by : FnC (c.lv k) "carpet_by" M_carpet_by F_carpet_by) (f_all_movements : FnC (c.lv k) "all_movements" M_all_movements F_all_movements) (f_moved : FnC (c.lv k) "moved" M_moved F_moved) (g_MOST : Glb c "MOST" K_MOST) (m_range : c.mg "range" = none) (m_min : c.mg "min" = none) (m_sorted : c.mg "sorted" = none) (i_TooLarge : XICls c "TooLarge" "many") (hk_lv : 2 ≤ k) (hnc_ : c.nc = false) : FnOk c.P c.w c.K c.mg c.base (cxC c) (k + 1) f fd ["side", "colours"] (spV c M_all_forms F_all_forms) :=
  fn_ok Fu sc_all_forms rfl (b_all_forms f_power f_carpet_by f_all_movements f_moved g_MOST m_range m_min m_sorted i_TooLarge hk_lv hnc_) h_all_forms
theorem o_L_cell_at {c : Cfg} {k : Nat} {f : Addr} {fd : FuncData} (Fu : Fun c.K "_law_cell_at" "_law_cell_at" s_L_cell_at f fd) (m_len : c.mg "len" = none) : FnOk c.P c.w c.K c.mg c.base (cxC c) (k + 1) f fd ["_law_script", "_law_k"] (spV c M_L_cell_at F_L_cell_at) :=
  fn_ok Fu sc_L_cell_at rfl (b_L_cell_at m_len) h_L_cell_at
theorem o_L_mixed {c : Cfg} {k : Nat} {f : Addr} {fd : FuncData} (Fu : Fun c.K "_law_mixed" "_law_mixed" s_L_mixed f fd) : FnOk c.P c.w c.K c.mg c.base (cxC c) (k + 1) f fd ["_law_cell", "_law_k"] (spV c M_L_mixed F_L_mixed) :=
  fn_ok Fu sc_L_mixed rfl (b_L_mixed ) h_L_mixed
theorem o_L_led {c : Cfg} {k : Nat} {f : Addr} {fd : FuncData} (Fu : Fun c.K "_law_led" "_law_led" s_L_led f fd) : FnOk c.P c.w c.K c.mg c.base (cxC c) (k + 1) f fd ["_law_n", "_law_movement_here", "_law_place"] (spV c M_L_led F_L_led) :=
  fn_ok Fu sc_L_led rfl (b_L_led ) h_L_led
theorem o_L_moved {c : Cfg} {k : Nat} {f : Addr} {fd : FuncData} (Fu : Fun c.K "_law_moved" "_law_moved" s_L_moved f fd) (f_L_led : FnC (c.lv k) "_law_led" M_L_led F_L_led) (m_len : c.mg "len" = none) (m_range : c.mg "range" = none) (m_tuple : c.mg "tuple" = none) : FnOk c.P c.w c.K c.mg c.base (cxC c) (k + 1) f fd ["_law_carpet_here", "_law_movement_here"] (spV c M_L_moved F_L_moved) :=
  fn_ok Fu sc_L_moved rfl (b_L_moved f_L_led m_len m_range m_tuple) h_L_moved
theorem o_L_all {c : Cfg} {k : Nat} {f : Addr} {fd : FuncData} (Fu : Fun c.K "_law_all" "_law_all" s_L_all f fd) (m_range : c.mg "range" = none) : FnOk c.P c.w c.K c.mg c.base (cxC c) (k + 1) f fd ["_law_n"] (spV c M_L_all F_L_all) :=
  fn_ok Fu sc_L_all rfl (b_L_all m_range) h_L_all
theorem o_L_carpet {c : Cfg} {k : Nat} {f : Addr} {fd : FuncData} (Fu : Fun c.K "_law_carpet" "_law_carpet" s_L_carpet f fd) (f_L_mixed : FnC (c.lv k) "_law_mixed" M_L_mixed F_L_mixed) (m_range : c.mg "range" = none) (m_tuple : c.mg "tuple" = none) : FnOk c.P c.w c.K c.mg c.base (cxC c) (k + 1) f fd ["_law_n", "_law_many", "_law_cell"] (spV c M_L_carpet F_L_carpet) :=
  fn_ok Fu sc_L_carpet rfl (b_L_carpet f_L_mixed m_range m_tuple) h_L_carpet
theorem o_L_least {c : Cfg} {k : Nat} {f : Addr} {fd : FuncData} (Fu : Fun c.K "_law_least" "_law_least" s_L_least f fd) (f_L_all : FnC (c.lv k) "_law_all" M_L_all F_L_all) (f_L_moved : FnC (c.lv k) "_law_moved" M_L_moved F_L_moved) (m_len : c.mg "len" = none) (m_min : c.mg "min" = none) : FnOk c.P c.w c.K c.mg c.base (cxC c) (k + 1) f fd ["_law_carpet_here"] (spV c M_L_least F_L_least) :=
  fn_ok Fu sc_L_least rfl (b_L_least f_L_all f_L_moved m_len m_min) h_L_least
theorem o_law {c : Cfg} {k : Nat} {f : Addr} {fd : FuncData} (Fu : Fun c.K "law" "law" s_law f fd) (f_L_mixed : FnC (c.lv k) "_law_mixed" M_L_mixed F_L_mixed) (f_L_cell_at : FnC (c.lv k) "_law_cell_at" M_L_cell_at F_L_cell_at) (f_all_forms : FnC (c.lv k) "all_forms" M_all_forms F_all_forms) (f_count_of : FnC (c.lv k) "count_of" M_count_of F_count_of) (f_L_least : FnC (c.lv k) "_law_least" M_L_least F_L_least) (f_L_carpet : FnC (c.lv k) "_law_carpet" M_L_carpet F_L_carpet) (m_list : c.mg "list" = none) (m_isinstance : c.mg "isinstance" = none) (m_sorted : c.mg "sorted" = none) (m_set : c.mg "set" = none) (m_len : c.mg "len" = none) (m_tuple : c.mg "tuple" = none) (m_min : c.mg "min" = none) (m_range : c.mg "range" = none) : FnOk c.P c.w c.K c.mg c.base (cxC c) (k + 1) f fd ["_law_script"] (spV c M_law F_law) :=
  fn_ok Fu sc_law rfl (b_law f_L_mixed f_L_cell_at f_all_forms f_count_of f_L_least f_L_carpet m_list m_isinstance m_sorted m_set m_len m_tuple m_min m_range) h_law
theorem all_mk {P : Program} {w : World} {K : PySem.W.Frag} {h : Heap} {mg : Str → Option Value} {fa f0 f1 f2 f3 f4 f5 f6 f7 f8 f9 f10 f11 f12 f13 f14 f15 f16 : Addr} (X : K.In h) (G : h.Ns mainGlobals mg) (hfa : mg "law" = some (.ref fa))
    {od0 an0 : Option Addr} {sl0 : Array (Option Value)} {oc0 kV0 dc0 pm0 cd0 ct0 : Value}
    (a0 : PySem.W.nsIn K mainGlobals "turned_place" = some (some (.ref f0))) (l0 : K.lookup f0 = some ⟨oc0, od0, .func (PySem.W.fnOf "turned_place" "turned_place" (defArgs s_turned_place) (defBody s_turned_place) (defScope s_turned_place) .none kV0 dc0 pm0 an0 cd0 ct0), sl0⟩) (c0 : PySem.W.codeIn K cd0 "turned_place" = true) (k0 : PySem.W.keepIn K (.ref f0) = true)
    {od1 an1 : Option Addr} {sl1 : Array (Option Value)} {oc1 kV1 dc1 pm1 cd1 ct1 : Value}
    (a1 : PySem.W.nsIn K mainGlobals "led" = some (some (.ref f1))) (l1 : K.lookup f1 = some ⟨oc1, od1, .func (PySem.W.fnOf "led" "led" (defArgs s_led) (defBody s_led) (defScope s_led) .none kV1 dc1 pm1 an1 cd1 ct1), sl1⟩) (c1 : PySem.W.codeIn K cd1 "led" = true) (k1 : PySem.W.keepIn K (.ref f1) = true)
    {od2 an2 : Option Addr} {sl2 : Array (Option Value)} {oc2 kV2 dc2 pm2 cd2 ct2 : Value}
    (a2 : PySem.W.nsIn K mainGlobals "moved" = some (some (.ref f2))) (l2 : K.lookup f2 = some ⟨oc2, od2, .func (PySem.W.fnOf "moved" "moved" (defArgs s_moved) (defBody s_moved) (defScope s_moved) .none kV2 dc2 pm2 an2 cd2 ct2), sl2⟩) (c2 : PySem.W.codeIn K cd2 "moved" = true) (k2 : PySem.W.keepIn K (.ref f2) = true)
    {od3 an3 : Option Addr} {sl3 : Array (Option Value)} {oc3 kV3 dc3 pm3 cd3 ct3 : Value}
    (a3 : PySem.W.nsIn K mainGlobals "all_movements" = some (some (.ref f3))) (l3 : K.lookup f3 = some ⟨oc3, od3, .func (PySem.W.fnOf "all_movements" "all_movements" (defArgs s_all_movements) (defBody s_all_movements) (defScope s_all_movements) .none kV3 dc3 pm3 an3 cd3 ct3), sl3⟩) (c3 : PySem.W.codeIn K cd3 "all_movements" = true) (k3 : PySem.W.keepIn K (.ref f3) = true)
    {od4 an4 : Option Addr} {sl4 : Array (Option Value)} {oc4 kV4 dc4 pm4 cd4 ct4 : Value}
    (a4 : PySem.W.nsIn K mainGlobals "rounds" = some (some (.ref f4))) (l4 : K.lookup f4 = some ⟨oc4, od4, .func (PySem.W.fnOf "rounds" "rounds" (defArgs s_rounds) (defBody s_rounds) (defScope s_rounds) .none kV4 dc4 pm4 an4 cd4 ct4), sl4⟩) (c4 : PySem.W.codeIn K cd4 "rounds" = true) (k4 : PySem.W.keepIn K (.ref f4) = true)
    {od5 an5 : Option Addr} {sl5 : Array (Option Value)} {oc5 kV5 dc5 pm5 cd5 ct5 : Value}
    (a5 : PySem.W.nsIn K mainGlobals "power" = some (some (.ref f5))) (l5 : K.lookup f5 = some ⟨oc5, od5, .func (PySem.W.fnOf "power" "power" (defArgs s_power) (defBody s_power) (defScope s_power) .none kV5 dc5 pm5 an5 cd5 ct5), sl5⟩) (c5 : PySem.W.codeIn K cd5 "power" = true) (k5 : PySem.W.keepIn K (.ref f5) = true)
    {od6 an6 : Option Addr} {sl6 : Array (Option Value)} {oc6 kV6 dc6 pm6 cd6 ct6 : Value}
    (a6 : PySem.W.nsIn K mainGlobals "count_of" = some (some (.ref f6))) (l6 : K.lookup f6 = some ⟨oc6, od6, .func (PySem.W.fnOf "count_of" "count_of" (defArgs s_count_of) (defBody s_count_of) (defScope s_count_of) .none kV6 dc6 pm6 an6 cd6 ct6), sl6⟩) (c6 : PySem.W.codeIn K cd6 "count_of" = true) (k6 : PySem.W.keepIn K (.ref f6) = true)
    {od7 an7 : Option Addr} {sl7 : Array (Option Value)} {oc7 kV7 dc7 pm7 cd7 ct7 : Value}
    (a7 : PySem.W.nsIn K mainGlobals "carpet_by" = some (some (.ref f7))) (l7 : K.lookup f7 = some ⟨oc7, od7, .func (PySem.W.fnOf "carpet_by" "carpet_by" (defArgs s_carpet_by) (defBody s_carpet_by) (defScope s_carpet_by) .none kV7 dc7 pm7 an7 cd7 ct7), sl7⟩) (c7 : PySem.W.codeIn K cd7 "carpet_by" = true) (k7 : PySem.W.keepIn K (.ref f7) = true)
    {od8 an8 : Option Addr} {sl8 : Array (Option Value)} {oc8 kV8 dc8 pm8 cd8 ct8 : Value}
    (a8 : PySem.W.nsIn K mainGlobals "all_forms" = some (some (.ref f8))) (l8 : K.lookup f8 = some ⟨oc8, od8, .func (PySem.W.fnOf "all_forms" "all_forms" (defArgs s_all_forms) (defBody s_all_forms) (defScope s_all_forms) .none kV8 dc8 pm8 an8 cd8 ct8), sl8⟩) (c8 : PySem.W.codeIn K cd8 "all_forms" = true) (k8 : PySem.W.keepIn K (.ref f8) = true)
    {od9 an9 : Option Addr} {sl9 : Array (Option Value)} {oc9 kV9 dc9 pm9 cd9 ct9 : Value}
    (a9 : PySem.W.nsIn K mainGlobals "_law_cell_at" = some (some (.ref f9))) (l9 : K.lookup f9 = some ⟨oc9, od9, .func (PySem.W.fnOf "_law_cell_at" "_law_cell_at" (defArgs s_L_cell_at) (defBody s_L_cell_at) (defScope s_L_cell_at) .none kV9 dc9 pm9 an9 cd9 ct9), sl9⟩) (c9 : PySem.W.codeIn K cd9 "_law_cell_at" = true) (k9 : PySem.W.keepIn K (.ref f9) = true)
    {od10 an10 : Option Addr} {sl10 : Array (Option Value)} {oc10 kV10 dc10 pm10 cd10 ct10 : Value}
    (a10 : PySem.W.nsIn K mainGlobals "_law_mixed" = some (some (.ref f10))) (l10 : K.lookup f10 = some ⟨oc10, od10, .func (PySem.W.fnOf "_law_mixed" "_law_mixed" (defArgs s_L_mixed) (defBody s_L_mixed) (defScope s_L_mixed) .none kV10 dc10 pm10 an10 cd10 ct10), sl10⟩) (c10 : PySem.W.codeIn K cd10 "_law_mixed" = true) (k10 : PySem.W.keepIn K (.ref f10) = true)
    {od11 an11 : Option Addr} {sl11 : Array (Option Value)} {oc11 kV11 dc11 pm11 cd11 ct11 : Value}
    (a11 : PySem.W.nsIn K mainGlobals "_law_led" = some (some (.ref f11))) (l11 : K.lookup f11 = some ⟨oc11, od11, .func (PySem.W.fnOf "_law_led" "_law_led" (defArgs s_L_led) (defBody s_L_led) (defScope s_L_led) .none kV11 dc11 pm11 an11 cd11 ct11), sl11⟩) (c11 : PySem.W.codeIn K cd11 "_law_led" = true) (k11 : PySem.W.keepIn K (.ref f11) = true)
    {od12 an12 : Option Addr} {sl12 : Array (Option Value)} {oc12 kV12 dc12 pm12 cd12 ct12 : Value}
    (a12 : PySem.W.nsIn K mainGlobals "_law_moved" = some (some (.ref f12))) (l12 : K.lookup f12 = some ⟨oc12, od12, .func (PySem.W.fnOf "_law_moved" "_law_moved" (defArgs s_L_moved) (defBody s_L_moved) (defScope s_L_moved) .none kV12 dc12 pm12 an12 cd12 ct12), sl12⟩) (c12 : PySem.W.codeIn K cd12 "_law_moved" = true) (k12 : PySem.W.keepIn K (.ref f12) = true)
    {od13 an13 : Option Addr} {sl13 : Array (Option Value)} {oc13 kV13 dc13 pm13 cd13 ct13 : Value}
    (a13 : PySem.W.nsIn K mainGlobals "_law_all" = some (some (.ref f13))) (l13 : K.lookup f13 = some ⟨oc13, od13, .func (PySem.W.fnOf "_law_all" "_law_all" (defArgs s_L_all) (defBody s_L_all) (defScope s_L_all) .none kV13 dc13 pm13 an13 cd13 ct13), sl13⟩) (c13 : PySem.W.codeIn K cd13 "_law_all" = true) (k13 : PySem.W.keepIn K (.ref f13) = true)
    {od14 an14 : Option Addr} {sl14 : Array (Option Value)} {oc14 kV14 dc14 pm14 cd14 ct14 : Value}
    (a14 : PySem.W.nsIn K mainGlobals "_law_carpet" = some (some (.ref f14))) (l14 : K.lookup f14 = some ⟨oc14, od14, .func (PySem.W.fnOf "_law_carpet" "_law_carpet" (defArgs s_L_carpet) (defBody s_L_carpet) (defScope s_L_carpet) .none kV14 dc14 pm14 an14 cd14 ct14), sl14⟩) (c14 : PySem.W.codeIn K cd14 "_law_carpet" = true) (k14 : PySem.W.keepIn K (.ref f14) = true)
    {od15 an15 : Option Addr} {sl15 : Array (Option Value)} {oc15 kV15 dc15 pm15 cd15 ct15 : Value}
    (a15 : PySem.W.nsIn K mainGlobals "_law_least" = some (some (.ref f15))) (l15 : K.lookup f15 = some ⟨oc15, od15, .func (PySem.W.fnOf "_law_least" "_law_least" (defArgs s_L_least) (defBody s_L_least) (defScope s_L_least) .none kV15 dc15 pm15 an15 cd15 ct15), sl15⟩) (c15 : PySem.W.codeIn K cd15 "_law_least" = true) (k15 : PySem.W.keepIn K (.ref f15) = true)
    {od16 an16 : Option Addr} {sl16 : Array (Option Value)} {oc16 kV16 dc16 pm16 cd16 ct16 : Value}
    (a16 : PySem.W.nsIn K mainGlobals "law" = some (some (.ref f16))) (l16 : K.lookup f16 = some ⟨oc16, od16, .func (PySem.W.fnOf "law" "law" (defArgs s_law) (defBody s_law) (defScope s_law) .none kV16 dc16 pm16 an16 cd16 ct16), sl16⟩) (c16 : PySem.W.codeIn K cd16 "law" = true) (k16 : PySem.W.keepIn K (.ref f16) = true)
    (z_len : PySem.W.nsIn K mainGlobals "len" = some none) (z_range : PySem.W.nsIn K mainGlobals "range" = some none) (z_tuple : PySem.W.nsIn K mainGlobals "tuple" = some none) (z_sorted : PySem.W.nsIn K mainGlobals "sorted" = some none) (z_sum : PySem.W.nsIn K mainGlobals "sum" = some none) (z_min : PySem.W.nsIn K mainGlobals "min" = some none) (z_list : PySem.W.nsIn K mainGlobals "list" = some none) (z_isinstance : PySem.W.nsIn K mainGlobals "isinstance" = some none) (z_set : PySem.W.nsIn K mainGlobals "set" = some none)
    {e_CarpetError : Addr} (ns_CarpetError : PySem.W.nsIn K mainGlobals "CarpetError" = some (some (.ref e_CarpetError)))
    {e_TooLarge : Addr} (ns_TooLarge : PySem.W.nsIn K mainGlobals "TooLarge" = some (some (.ref e_TooLarge)))
    (bg_CarpetError : PySem.W.specialIn K (.ref e_CarpetError) "__getattribute__" = some (some (.builtin "type.__getattribute__"))) (bt_CarpetError : PySem.W.typeIn K (.ref e_CarpetError) = some (.type "type")) (br_CarpetError : PySem.W.readsIn K e_CarpetError (.type "type") = true) (bf_CarpetError : PySem.W.findCls K (.ref e_CarpetError) (.type "type") "__init__" = some (.val (.builtin "ValueError.__init__")))
    {nm0 q0 N0 bs0 bm0 sn0 sub0 ab0 col0 dd0 kA0 kB0 kC0 kD0 kE0} (lk_TooLarge : K.lookup e_TooLarge = some (PySem.excClassObj nm0 q0 e_TooLarge N0 bs0 bm0 true sn0 sub0 ab0 col0 dd0 kA0 kB0 kC0 kD0 kE0 "ValueError.__new__")) (rv_TooLarge : PySem.HandSPX.refsVE bm0 = true)
    (sa_TooLarge : PySem.W.findIn K (.ref e_TooLarge) "__setattr__" = some (some (.builtin "object.__setattr__"))) (no_TooLarge : PySem.W.findIn K (.ref e_TooLarge) "many" = some none)
    {fi_TooLarge : Addr} (ii_TooLarge : PySem.W.findIn K (.ref e_TooLarge) "__init__" = some (some (.ref fi_TooLarge))) (it_TooLarge : PySem.W.typeIn K (.ref fi_TooLarge) = some (.type "function"))
    {odI0 anI0 : Option Addr} {slI0 : Array (Option Value)} {ocI0 kVI0 dcI0 pmI0 cdI0 ctI0 : Value} (li_TooLarge : K.lookup fi_TooLarge = some ⟨ocI0, odI0, .func (PySem.W.fnOf "__init__" "TooLarge.__init__" (defArgs si_TooLarge) (defBody si_TooLarge) (defScope si_TooLarge) .none kVI0 dcI0 pmI0 anI0 cdI0 ctI0), slI0⟩) (lc_TooLarge : PySem.W.codeIn K cdI0 "TooLarge.__init__" = true) (lq_TooLarge : PySem.W.keepIn K (.ref fi_TooLarge) = true)
    (kp_TooLarge : PySem.W.keepIn K (.ref e_TooLarge) = true) (sb_TooLarge : PySem.W.subIn K (.ref e_TooLarge) (.type "BaseException") = some true) (ty_TooLarge : PySem.W.typeIn K (.ref e_TooLarge) = some (.type "type"))
    (q_WAYS : ConstAt K w mainGlobals "WAYS" K_WAYS) (q_SIGNS : ConstAt K w mainGlobals "SIGNS" K_SIGNS) (q_LETTERS : ConstAt K w mainGlobals "LETTERS" K_LETTERS) (q_MOST : ConstAt K w mainGlobals "MOST" K_MOST)
    : ∃ fd : FuncData, (∀ (s : Shared) (v : Value), BindsTo s fd ⟨[v], []⟩ [("_law_script", v)]) ∧ ∀ base : Heap, K.In base → base.Ns mainGlobals mg → FnOk P w K mg base (L2.CX P w) 5 fa fd ["_law_script"] (spLaw K) := by
  have e := hfa.symm.trans (PySem.W.mg_of X G a16)
  cases e
  have F0 := fun_mk (st := s_turned_place) l0 c0 k0
  have F1 := fun_mk (st := s_led) l1 c1 k1
  have F2 := fun_mk (st := s_moved) l2 c2 k2
  have F3 := fun_mk (st := s_all_movements) l3 c3 k3
  have F4 := fun_mk (st := s_rounds) l4 c4 k4
  have F5 := fun_mk (st := s_power) l5 c5 k5
  have F6 := fun_mk (st := s_count_of) l6 c6 k6
  have F7 := fun_mk (st := s_carpet_by) l7 c7 k7
  have F8 := fun_mk (st := s_all_forms) l8 c8 k8
  have F9 := fun_mk (st := s_L_cell_at) l9 c9 k9
  have F10 := fun_mk (st := s_L_mixed) l10 c10 k10
  have F11 := fun_mk (st := s_L_led) l11 c11 k11
  have F12 := fun_mk (st := s_L_moved) l12 c12 k12
  have F13 := fun_mk (st := s_L_all) l13 c13 k13
  have F14 := fun_mk (st := s_L_carpet) l14 c14 k14
  have F15 := fun_mk (st := s_L_least) l15 c15 k15
  have F16 := fun_mk (st := s_law) l16 c16 k16
  refine ⟨PySem.W.fnOf "law" "law" (defArgs s_law) (defBody s_law) (defScope s_law) .none kV16 dc16 pm16 an16 cd16 ct16, fun s v => .of_eq rfl, fun base hb1 hb2 => ?_⟩
  let C : Cfg := { P := P, w := w, K := K, mg := mg, base := base, N := [], scope := defScope s_law, fn := fun _ => true, k := 0, top := true, calm := true }
  have m_len : C.mg "len" = none := PySem.W.mg_none_of X G z_len
  have m_range : C.mg "range" = none := PySem.W.mg_none_of X G z_range
  have m_tuple : C.mg "tuple" = none := PySem.W.mg_none_of X G z_tuple
  have m_sorted : C.mg "sorted" = none := PySem.W.mg_none_of X G z_sorted
  have m_sum : C.mg "sum" = none := PySem.W.mg_none_of X G z_sum
  have m_min : C.mg "min" = none := PySem.W.mg_none_of X G z_min
  have m_list : C.mg "list" = none := PySem.W.mg_none_of X G z_list
  have m_isinstance : C.mg "isinstance" = none := PySem.W.mg_none_of X G z_isinstance
  have m_set : C.mg "set" = none := PySem.W.mg_none_of X G z_set
  have g_WAYS : Glb C "WAYS" K_WAYS := q_WAYS.glb X G
  have g_SIGNS : Glb C "SIGNS" K_SIGNS := q_SIGNS.glb X G
  have g_LETTERS : Glb C "LETTERS" K_LETTERS := q_LETTERS.glb X G
  have g_MOST : Glb C "MOST" K_MOST := q_MOST.glb X G
  have b_CarpetError : BAt C "CarpetError" e_CarpetError := ⟨PySem.W.mg_of X G ns_CarpetError, bg_CarpetError, bt_CarpetError, br_CarpetError, bf_CarpetError⟩
  have T_TooLarge : OexC K e_TooLarge := ⟨⟨_, _, _, _, _, _, _, _, _, _, _, _, _, _, _, lk_TooLarge, rv_TooLarge⟩, sa_TooLarge, sb_TooLarge, ty_TooLarge, kp_TooLarge⟩
  have G_TooLarge := fun_mk (st := si_TooLarge) li_TooLarge lc_TooLarge lq_TooLarge
  have i_TooLarge : XICls C "TooLarge" "many" := ⟨e_TooLarge, fi_TooLarge, "many", _, ns_TooLarge, PySem.W.mg_of X G ns_TooLarge, T_TooLarge, ii_TooLarge, it_TooLarge, init_TooLarge (c := C) (k := 0) G_TooLarge T_TooLarge no_TooLarge b_CarpetError, G_TooLarge.binds (ps := ["self", "many"]) fun _ _ _ _ _ _ us hl => match us, hl with | [_, _], _ => rfl⟩
  have O_L_mixed := o_L_mixed (c := C) (k := 0) F10 
  have B_L_mixed : Binds C.K _ ["_law_cell", "_law_k"] [] := F10.binds (ps := ["_law_cell", "_law_k"]) fun _ _ _ _ _ _ us hl => match us, hl with | [_, _], _ => rfl
  have O_L_cell_at := o_L_cell_at (c := C) (k := 0) F9 m_len
  have B_L_cell_at : Binds C.K _ ["_law_script", "_law_k"] [] := F9.binds (ps := ["_law_script", "_law_k"]) fun _ _ _ _ _ _ us hl => match us, hl with | [_, _], _ => rfl
  have O_power := o_power (c := C) (k := 0) F5 m_range
  have B_power : Binds C.K _ ["number", "times"] [] := F5.binds (ps := ["number", "times"]) fun _ _ _ _ _ _ us hl => match us, hl with | [_, _], _ => rfl
  have O_carpet_by := o_carpet_by (c := C) (k := 0) F7 g_LETTERS m_range m_tuple
  have B_carpet_by : Binds C.K _ ["side", "colours", "code"] [] := F7.binds (ps := ["side", "colours", "code"]) fun _ _ _ _ _ _ us hl => match us, hl with | [_, _, _], _ => rfl
  have O_all_movements := o_all_movements (c := C) (k := 0) F3 g_WAYS m_sorted m_range
  have B_all_movements : Binds C.K _ ["n"] [] := F3.binds (ps := ["n"]) fun _ _ _ _ _ _ us hl => match us, hl with | [_], _ => rfl
  have O_turned_place := o_turned_place (c := C) (k := 0) F0 g_SIGNS
  have B_turned_place : Binds C.K _ ["way", "place"] [] := F0.binds (ps := ["way", "place"]) fun _ _ _ _ _ _ us hl => match us, hl with | [_, _], _ => rfl
  have O_led := o_led (c := C) (k := 1) F1 (FnC.lvl O_turned_place (PySem.W.mg_of X G a0) k0 B_turned_place (by decide))
  have B_led : Binds C.K _ ["n", "movement", "place"] [] := F1.binds (ps := ["n", "movement", "place"]) fun _ _ _ _ _ _ us hl => match us, hl with | [_, _, _], _ => rfl
  have O_moved := o_moved (c := C) (k := 2) F2 (FnC.lvl O_led (PySem.W.mg_of X G a1) k1 B_led (by decide)) m_len m_range m_tuple
  have B_moved : Binds C.K _ ["carpet", "movement"] [] := F2.binds (ps := ["carpet", "movement"]) fun _ _ _ _ _ _ us hl => match us, hl with | [_, _], _ => rfl
  have O_all_forms := o_all_forms (c := C) (k := 3) F8 (FnC.lvl O_power (PySem.W.mg_of X G a5) k5 B_power (by decide)) (FnC.lvl O_carpet_by (PySem.W.mg_of X G a7) k7 B_carpet_by (by decide)) (FnC.lvl O_all_movements (PySem.W.mg_of X G a3) k3 B_all_movements (by decide)) (FnC.lvl O_moved (PySem.W.mg_of X G a2) k2 B_moved (by decide)) g_MOST m_range m_min m_sorted i_TooLarge (by decide) (by rfl)
  have B_all_forms : Binds C.K _ ["side", "colours"] [] := F8.binds (ps := ["side", "colours"]) fun _ _ _ _ _ _ us hl => match us, hl with | [_, _], _ => rfl
  have O_rounds := o_rounds (c := C) (k := 2) F4 (FnC.lvl O_led (PySem.W.mg_of X G a1) k1 B_led (by decide)) m_range
  have B_rounds : Binds C.K _ ["side", "movement"] [] := F4.binds (ps := ["side", "movement"]) fun _ _ _ _ _ _ us hl => match us, hl with | [_, _], _ => rfl
  have O_count_of := o_count_of (c := C) (k := 3) F6 (FnC.lvl O_all_movements (PySem.W.mg_of X G a3) k3 B_all_movements (by decide)) (FnC.lvl O_power (PySem.W.mg_of X G a5) k5 B_power (by decide)) (FnC.lvl O_rounds (PySem.W.mg_of X G a4) k4 B_rounds (by decide)) m_len m_sum
  have B_count_of : Binds C.K _ ["side", "colours"] [] := F6.binds (ps := ["side", "colours"]) fun _ _ _ _ _ _ us hl => match us, hl with | [_, _], _ => rfl
  have O_L_all := o_L_all (c := C) (k := 0) F13 m_range
  have B_L_all : Binds C.K _ ["_law_n"] [] := F13.binds (ps := ["_law_n"]) fun _ _ _ _ _ _ us hl => match us, hl with | [_], _ => rfl
  have O_L_led := o_L_led (c := C) (k := 0) F11 
  have B_L_led : Binds C.K _ ["_law_n", "_law_movement_here", "_law_place"] [] := F11.binds (ps := ["_law_n", "_law_movement_here", "_law_place"]) fun _ _ _ _ _ _ us hl => match us, hl with | [_, _, _], _ => rfl
  have O_L_moved := o_L_moved (c := C) (k := 1) F12 (FnC.lvl O_L_led (PySem.W.mg_of X G a11) k11 B_L_led (by decide)) m_len m_range m_tuple
  have B_L_moved : Binds C.K _ ["_law_carpet_here", "_law_movement_here"] [] := F12.binds (ps := ["_law_carpet_here", "_law_movement_here"]) fun _ _ _ _ _ _ us hl => match us, hl with | [_, _], _ => rfl
  have O_L_least := o_L_least (c := C) (k := 2) F15 (FnC.lvl O_L_all (PySem.W.mg_of X G a13) k13 B_L_all (by decide)) (FnC.lvl O_L_moved (PySem.W.mg_of X G a12) k12 B_L_moved (by decide)) m_len m_min
  have B_L_least : Binds C.K _ ["_law_carpet_here"] [] := F15.binds (ps := ["_law_carpet_here"]) fun _ _ _ _ _ _ us hl => match us, hl with | [_], _ => rfl
  have O_L_carpet := o_L_carpet (c := C) (k := 1) F14 (FnC.lvl O_L_mixed (PySem.W.mg_of X G a10) k10 B_L_mixed (by decide)) m_range m_tuple
  have B_L_carpet : Binds C.K _ ["_law_n", "_law_many", "_law_cell"] [] := F14.binds (ps := ["_law_n", "_law_many", "_law_cell"]) fun _ _ _ _ _ _ us hl => match us, hl with | [_, _, _], _ => rfl
  have O_law := o_law (c := C) (k := 4) F16 (FnC.lvl O_L_mixed (PySem.W.mg_of X G a10) k10 B_L_mixed (by decide)) (FnC.lvl O_L_cell_at (PySem.W.mg_of X G a9) k9 B_L_cell_at (by decide)) (FnC.lvl O_all_forms (PySem.W.mg_of X G a8) k8 B_all_forms (by decide)) (FnC.lvl O_count_of (PySem.W.mg_of X G a6) k6 B_count_of (by decide)) (FnC.lvl O_L_least (PySem.W.mg_of X G a15) k15 B_L_least (by decide)) (FnC.lvl O_L_carpet (PySem.W.mg_of X G a14) k14 B_L_carpet (by decide)) m_list m_isinstance m_sorted m_set m_len m_tuple m_min m_range
  exact law_ok (c := C) O_law
end My_carpetkin_k84_all_forms
open PySem PySem.W PyProof.Rows in
set_option maxHeartbeats 0 in
theorem PySem.Challenge.cw_carpetkin_k84_all_forms_holds : PySem.Challenge.rw_carpetkin_k84_all_forms.Holds := by
  w_on; o_law; k_head; (case hw => w_witness2)
  k_fill
  refine L2.walk_of (l := PySem.Challenge.rw_carpetkin_k84_all_forms) (n := 63) (k := 5) (x := "_law_script") (CX := fun w => L2.CX (PySem.Challenge.rw_carpetkin_k84_all_forms).prog w) (sp := fun w => VS.spLaw _) rfl (by decide) rfl ⟨rfl, by decide, by decide⟩ (fun w h Y => PySem.W.kIn_of Y) ?F (fun _ _ a ns hl _ hS => ⟨a, ns, rfl, hS, hl, fun _ => rfl⟩) (fun _ _ _ _ _ h => VS.cx_false h)
  case F =>
    intro w mg fa h KX G hmg
    refine' My_carpetkin_k84_all_forms.all_mk KX G hmg ?a0 ?l0 ?c0 ?k0 ?a1 ?l1 ?c1 ?k1 ?a2 ?l2 ?c2 ?k2 ?a3 ?l3 ?c3 ?k3 ?a4 ?l4 ?c4 ?k4 ?a5 ?l5 ?c5 ?k5 ?a6 ?l6 ?c6 ?k6 ?a7 ?l7 ?c7 ?k7 ?a8 ?l8 ?c8 ?k8 ?a9 ?l9 ?c9 ?k9 ?a10 ?l10 ?c10 ?k10 ?a11 ?l11 ?c11 ?k11 ?a12 ?l12 ?c12 ?k12 ?a13 ?l13 ?c13 ?k13 ?a14 ?l14 ?c14 ?k14 ?a15 ?l15 ?c15 ?k15 ?a16 ?l16 ?c16 ?k16 ?z_len ?z_range ?z_tuple ?z_sorted ?z_sum ?z_min ?z_list ?z_isinstance ?z_set ?ns_CarpetError ?ns_TooLarge ?bg_CarpetError ?bt_CarpetError ?br_CarpetError ?bf_CarpetError ?lk_TooLarge ?rv_TooLarge ?sa_TooLarge ?no_TooLarge ?ii_TooLarge ?it_TooLarge ?li_TooLarge ?lc_TooLarge ?lq_TooLarge ?kp_TooLarge ?sb_TooLarge ?ty_TooLarge ?q_WAYS ?q_SIGNS ?q_LETTERS ?q_MOST
    (case a0 => k_is)
    (case l0 => k_is)
    (case c0 => k_is)
    (case k0 => k_is)
    (case a1 => k_is)
    (case l1 => k_is)
    (case c1 => k_is)
    (case k1 => k_is)
    (case a2 => k_is)
    (case l2 => k_is)
    (case c2 => k_is)
    (case k2 => k_is)
    (case a3 => k_is)
    (case l3 => k_is)
    (case c3 => k_is)
    (case k3 => k_is)
    (case a4 => k_is)
    (case l4 => k_is)
    (case c4 => k_is)
    (case k4 => k_is)
    (case a5 => k_is)
    (case l5 => k_is)
    (case c5 => k_is)
    (case k5 => k_is)
    (case a6 => k_is)
    (case l6 => k_is)
    (case c6 => k_is)
    (case k6 => k_is)
    (case a7 => k_is)
    (case l7 => k_is)
    (case c7 => k_is)
    (case k7 => k_is)
    (case a8 => k_is)
    (case l8 => k_is)
    (case c8 => k_is)
    (case k8 => k_is)
    (case a9 => k_is)
    (case l9 => k_is)
    (case c9 => k_is)
    (case k9 => k_is)
    (case a10 => k_is)
    (case l10 => k_is)
    (case c10 => k_is)
    (case k10 => k_is)
    (case a11 => k_is)
    (case l11 => k_is)
    (case c11 => k_is)
    (case k11 => k_is)
    (case a12 => k_is)
    (case l12 => k_is)
    (case c12 => k_is)
    (case k12 => k_is)
    (case a13 => k_is)
    (case l13 => k_is)
    (case c13 => k_is)
    (case k13 => k_is)
    (case a14 => k_is)
    (case l14 => k_is)
    (case c14 => k_is)
    (case k14 => k_is)
    (case a15 => k_is)
    (case l15 => k_is)
    (case c15 => k_is)
    (case k15 => k_is)
    (case a16 => k_is)
    (case l16 => k_is)
    (case c16 => k_is)
    (case k16 => k_is)
    (case z_len => k_is)
    (case z_range => k_is)
    (case z_tuple => k_is)
    (case z_sorted => k_is)
    (case z_sum => k_is)
    (case z_min => k_is)
    (case z_list => k_is)
    (case z_isinstance => k_is)
    (case z_set => k_is)
    (case ns_CarpetError => k_is)
    (case ns_TooLarge => k_is)
    (case bg_CarpetError => k_is)
    (case bt_CarpetError => k_is)
    (case br_CarpetError => k_is)
    (case bf_CarpetError => k_is)
    (case lk_TooLarge => k_is)
    (case rv_TooLarge => decide)
    (case sa_TooLarge => k_is)
    (case no_TooLarge => k_is)
    (case ii_TooLarge => k_is)
    (case it_TooLarge => k_is)
    (case li_TooLarge => k_is)
    (case lc_TooLarge => k_is)
    (case lq_TooLarge => k_is)
    (case kp_TooLarge => k_is)
    (case sb_TooLarge => k_is)
    (case ty_TooLarge => k_is)
    case q_WAYS =>
      refine' VS.constAt_ref ?yyu ?yyh
      (case yyu => k_is)
      case yyh =>
        refine' VS.rep_ktup ?yyl ?yyz ?yyv ?yyr
        (case yyl => k_is)
        (case yyz => decide)
        (case yyv => exact VS.vals_str (VS.vals_str (VS.vals_str (VS.vals_str (VS.vals_str (VS.vals_str (VS.vals_str (VS.vals_str (VS.vals_nil)))))))))
        (case yyr => exact .cons (.str _) (.cons (.str _) (.cons (.str _) (.cons (.str _) (.cons (.str _) (.cons (.str _) (.cons (.str _) (.cons (.str _) (.nil)))))))))
    case q_SIGNS =>
      refine' VS.constAt_ref ?yyu ?yyh
      (case yyu => k_is)
      case yyh =>
        refine' VS.Rep.dicC ?yyd
        case yyd =>
          refine' VS.repC_ref ?yyl ?yyk ?yyn ?yyh ?yyt
          (case yyl => k_is)
          (case yyk => k_keys)
          (case yyn => k_is)
          case yyh =>
            refine' VS.rep_ktup ?yyl ?yyz ?yyv ?yyr
            (case yyl => k_is)
            (case yyz => decide)
            (case yyv => exact VS.vals_int (VS.vals_int (VS.vals_int (VS.vals_int (VS.vals_nil)))))
            (case yyr => exact .cons (.int _) (.cons (.int _) (.cons (.int _) (.cons (.int _) (.nil)))))
          case yyt =>
            refine' VS.repC_ref ?yyl ?yyk ?yyn ?yyh ?yyt
            (case yyl => k_is)
            (case yyk => k_keys)
            (case yyn => k_is)
            case yyh =>
              refine' VS.rep_ktup ?yyl ?yyz ?yyv ?yyr
              (case yyl => k_is)
              (case yyz => decide)
              (case yyv => exact VS.vals_int (VS.vals_int (VS.vals_int (VS.vals_int (VS.vals_nil)))))
              (case yyr => exact .cons (.int _) (.cons (.int _) (.cons (.int _) (.cons (.int _) (.nil)))))
            case yyt =>
              refine' VS.repC_ref ?yyl ?yyk ?yyn ?yyh ?yyt
              (case yyl => k_is)
              (case yyk => k_keys)
              (case yyn => k_is)
              case yyh =>
                refine' VS.rep_ktup ?yyl ?yyz ?yyv ?yyr
                (case yyl => k_is)
                (case yyz => decide)
                (case yyv => exact VS.vals_int (VS.vals_int (VS.vals_int (VS.vals_int (VS.vals_nil)))))
                (case yyr => exact .cons (.int _) (.cons (.int _) (.cons (.int _) (.cons (.int _) (.nil)))))
              case yyt =>
                refine' VS.repC_ref ?yyl ?yyk ?yyn ?yyh ?yyt
                (case yyl => k_is)
                (case yyk => k_keys)
                (case yyn => k_is)
                case yyh =>
                  refine' VS.rep_ktup ?yyl ?yyz ?yyv ?yyr
                  (case yyl => k_is)
                  (case yyz => decide)
                  (case yyv => exact VS.vals_int (VS.vals_int (VS.vals_int (VS.vals_int (VS.vals_nil)))))
                  (case yyr => exact .cons (.int _) (.cons (.int _) (.cons (.int _) (.cons (.int _) (.nil)))))
                case yyt =>
                  refine' VS.repC_ref ?yyl ?yyk ?yyn ?yyh ?yyt
                  (case yyl => k_is)
                  (case yyk => k_keys)
                  (case yyn => k_is)
                  case yyh =>
                    refine' VS.rep_ktup ?yyl ?yyz ?yyv ?yyr
                    (case yyl => k_is)
                    (case yyz => decide)
                    (case yyv => exact VS.vals_int (VS.vals_int (VS.vals_int (VS.vals_int (VS.vals_nil)))))
                    (case yyr => exact .cons (.int _) (.cons (.int _) (.cons (.int _) (.cons (.int _) (.nil)))))
                  case yyt =>
                    refine' VS.repC_ref ?yyl ?yyk ?yyn ?yyh ?yyt
                    (case yyl => k_is)
                    (case yyk => k_keys)
                    (case yyn => k_is)
                    case yyh =>
                      refine' VS.rep_ktup ?yyl ?yyz ?yyv ?yyr
                      (case yyl => k_is)
                      (case yyz => decide)
                      (case yyv => exact VS.vals_int (VS.vals_int (VS.vals_int (VS.vals_int (VS.vals_nil)))))
                      (case yyr => exact .cons (.int _) (.cons (.int _) (.cons (.int _) (.cons (.int _) (.nil)))))
                    case yyt =>
                      refine' VS.repC_ref ?yyl ?yyk ?yyn ?yyh ?yyt
                      (case yyl => k_is)
                      (case yyk => k_keys)
                      (case yyn => k_is)
                      case yyh =>
                        refine' VS.rep_ktup ?yyl ?yyz ?yyv ?yyr
                        (case yyl => k_is)
                        (case yyz => decide)
                        (case yyv => exact VS.vals_int (VS.vals_int (VS.vals_int (VS.vals_int (VS.vals_nil)))))
                        (case yyr => exact .cons (.int _) (.cons (.int _) (.cons (.int _) (.cons (.int _) (.nil)))))
                      case yyt =>
                        refine' VS.repC_ref ?yyl ?yyk ?yyn ?yyh ?yyt
                        (case yyl => k_is)
                        (case yyk => k_keys)
                        (case yyn => k_is)
                        case yyh =>
                          refine' VS.rep_ktup ?yyl ?yyz ?yyv ?yyr
                          (case yyl => k_is)
                          (case yyz => decide)
                          (case yyv => exact VS.vals_int (VS.vals_int (VS.vals_int (VS.vals_int (VS.vals_nil)))))
                          (case yyr => exact .cons (.int _) (.cons (.int _) (.cons (.int _) (.cons (.int _) (.nil)))))
                        case yyt =>
                          exact VS.RepC.nil
    case q_LETTERS =>
      refine' VS.constAt_str ?yyu
      (case yyu => k_is)
    case q_MOST =>
      refine' VS.constAt_int ?yyu
      (case yyu => k_is)
