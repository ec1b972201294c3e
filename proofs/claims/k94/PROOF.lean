import PyProof.Rows.All
import Wide.All
import OpenK.AllK
import Wide.FinOn
import HandS.Base
import HandS.Call
import HandS.List
import HandS.Comp
import HandS.Ends
import HandS.Dict
import HandS.Iter
import HandS.Text
import HandS.More
import HandS.Exc
import HandS.ExcOwn
import HandS.HotCalls
import HandS.ExcIs
import HandS.ExcField
import HandS.ExcInit
import HandS.TryOnly
import HandS.Words
import HandS.WordsList
import HandS.WordsDict
import HandS.WordsExc
import HandS.Deep
import HandS.Wide
import HandS.IsInst
import HandS.RevTup
import HandS.Zip
import KE.KeyNested
import HandS.TupAny
import HandS.TupLen
import KE.KDictCopyH
import HandS.Conv
import HandS.SortInts
import KE.SortData
import HandS.Style
import KE.DataMinMax
import HandS.Sort
import KE.KDictList
import PyProof.MinMaxWalk
import HandS.Rev
import PyProof.AutoRange
import PyProof.RangeIter
import KE.IntTextLaws
import PyProof.StrLawsChain
import HandS.RaiseMore
import PyProof.Rows.StrRev
import KE.KExcIs
import HandS.TupMul
import KE.KDictPairs
import PyProof.ListStr
import HandS.SetFor
import PyProof.Rows.SortStr
import HandS.ListItems
import HandS.DictTup
import HandS.NoneIn
import KE.GoesZip
import PyProof.EnumMake
import HandS.Strs
import HandS.StrMore
import KE.GoesEnum
import PySem.Challenge.RW_carpetkin_k94_whole_bettered
set_option Elab.async false
set_option linter.all false
set_option maxRecDepth 100000
set_option maxHeartbeats 4000000

/-! VS: defs by plain values. D: data without addresses; each expression's and statement's reading over an environment of such data; rules that lead from it to the machine. -/
namespace VS
open PySem PySem.Spec L2

/-! ### data -/
inductive D where
  | non | bl (b : Bool) | int (i : Int) | str (x : Str) | ty (n : String)
  | tup (xs : List D) | lst (xs : List D) | dic (t : Bool) (kvs : List (D × D)) | ktup (xs : List D) | kdic (kvs : List (D × D)) | exc (x : Str) (fs : List (D × D)) | dix (kvs : List (D × D)) | ins (x : Str) (fs : List (D × D))
mutual
def D.beq : D → D → Bool
  | .non, .non => true
  | .bl a, .bl b => a == b
  | .int a, .int b => a == b
  | .str a, .str b => decide (a = b)
  | .ty a, .ty b => a == b
  | .tup a, .tup b => D.beqL a b
  | .lst a, .lst b => D.beqL a b
  | .dic t a, .dic u b => t == u && D.beqP a b
  | .ktup a, .ktup b => D.beqL a b
  | .kdic a, .kdic b => D.beqP a b
  | .exc x a, .exc y b => decide (x = y) && D.beqP a b
  | .dix a, .dix b => D.beqP a b
  | .ins x a, .ins y b => decide (x = y) && D.beqP a b
  | _, _ => false
  termination_by structural a => a
def D.beqL : List D → List D → Bool
  | [], [] => true
  | a :: r, b :: s => D.beq a b && D.beqL r s
  | _, _ => false
  termination_by structural a => a
def D.beqP : List (D × D) → List (D × D) → Bool
  | [], [] => true
  | a :: r, b :: s => D.beqQ a b && D.beqP r s
  | _, _ => false
  termination_by structural a => a
def D.beqQ : (D × D) → (D × D) → Bool
  | (k, a), (j, b) => D.beq k j && D.beq a b
  termination_by structural a => a
end
mutual
theorem D.beq_iff : ∀ a b : D, D.beq a b = true ↔ a = b
  | a, b => by
    cases a <;> cases b <;> simp [D.beq]
    · exact D.beqL_iff _ _
    · exact D.beqL_iff _ _
    · intro _; exact D.beqP_iff _ _
    · exact D.beqL_iff _ _
    · exact D.beqP_iff _ _
    · intro _; exact D.beqP_iff _ _
    · exact D.beqP_iff _ _
    · intro _; exact D.beqP_iff _ _
theorem D.beqL_iff : ∀ a b : List D, D.beqL a b = true ↔ a = b
  | a, b => by
    cases a <;> cases b <;> simp [D.beqL]
    rw [D.beq_iff, D.beqL_iff]
theorem D.beqP_iff : ∀ a b : List (D × D), D.beqP a b = true ↔ a = b
  | a, b => by
    cases a <;> cases b <;> simp [D.beqP]
    rw [D.beqQ_iff, D.beqP_iff]
theorem D.beqQ_iff : ∀ a b : D × D, D.beqQ a b = true ↔ a = b
  | (a, a'), (b, b') => by
    simp [D.beqQ]
    rw [D.beq_iff, D.beq_iff]
end
instance : DecidableEq D := fun a b => decidable_of_iff _ (D.beq_iff a b)
instance : Inhabited D := ⟨.non⟩

def keyD : Key → D
  | .inl i => .int i
  | .inr x => .str x
theorem keyD_inj {a b : Key} (h : keyD a = keyD b) : a = b := by
  cases a <;> cases b <;> simp_all [keyD]
def keysD (k : List Key) : D := .tup (k.map keyD)
theorem map_inj {α β : Type} {f : α → β} (hf : ∀ a b, f a = f b → a = b) : ∀ {l m : List α}, l.map f = m.map f → l = m
  | [], [], _ => rfl
  | [], _ :: _, h => by simp at h
  | _ :: _, [], h => by simp at h
  | a :: l, b :: m, h => by
    rw [List.map_cons, List.map_cons, List.cons.injEq] at h
    rw [hf _ _ h.1, map_inj hf h.2]
theorem keysD_inj {a b : List Key} (h : keysD a = keysD b) : a = b := map_inj (fun _ _ => keyD_inj) (D.tup.inj h)

/-! ### data in a heap -/
/-- an exception's object, of the class at C, its dict at d -/
def exO (C : Addr) (d : Option Addr) (a : Addr) : HO := .ext fun h => ∃ (oe : Obj) (vs : Array Value), h.get? a = some oe ∧ Zc (.ref C) d oe ∧ oe.data = .fields vs
def XF (G : Hp) (d : Option Addr) (fs : List (Str × V)) : Prop := (d = none ∧ fs = []) ∨ ∃ dx, d = some dx ∧ G dx = some (.xd fs)
def keysF (fs : List (Str × V)) : List (Key × V) := fs.map fun p => (.inr p.1, p.2)
theorem XF.mono {G H : Hp} (s : Same G H) {d : Option Addr} {fs : List (Str × V)} (h : XF G d fs) : XF H d fs := by
  rcases h with h | ⟨dx, h1, h2⟩
  · exact .inl h
  · exact .inr ⟨dx, h1, s _ _ h2⟩
mutual
/-- data as a key of any depth -/
def nkD : D → Option PySem.NestedKey
  | .int i => some (.num i)
  | .str x => some (.text x)
  | .tup xs => (nkL xs).map .tup
  | .ktup xs => (nkL xs).map .tup
  | _ => none
  termination_by structural a => a
def nkL : List D → Option (List PySem.NestedKey)
  | [] => some []
  | d :: ds => match nkD d with
    | some k => (nkL ds).map (k :: ·)
    | none => none
  termination_by structural a => a
end
/-- a dict whose keys are tuples of any depth, at a -/
def dxOk (w : World) (a : Addr) (kvs : List (PySem.NestedKey × Addr × V)) (h : Heap) : Prop := kvs.length ≤ sizeLine ∧ (a == sysModules) = false ∧ ∃ xs : List (PySem.NestedKey × Addr × Value),
  Paired (fun (p : PySem.NestedKey × Addr × V) (q : PySem.NestedKey × Addr × Value) => p.1 = q.1 ∧ p.2.1 = q.2.1 ∧ RelV p.2.2 q.2.2) kvs xs ∧ ∃ o es ep, h.get? a = some o ∧ o.ExactDict ∧ o.data = .dict es ep ∧ es.toList = xs.map (fun x => ⟨PySem.NestedKey.hash w x.1, .ref x.2.1, x.2.2⟩) ∧ (xs.map (·.1)).Nodup
def dxO (w : World) (a : Addr) (kvs : List (PySem.NestedKey × Addr × V)) : HO := .ext (dxOk w a kvs)
mutual
inductive Rep (K : PySem.W.Frag) (w : World) (G : Hp) : V → D → Prop
  | non : Rep K w G .non .non
  | bl (b : Bool) : Rep K w G (.bl b) (.bl b)
  | int (i : Int) : Rep K w G (.int i) (.int i)
  | str (x : Str) : Rep K w G (.str x) (.str x)
  | ty (n : String) : Rep K w G (.ty n) (.ty n)
  | tup {a : Addr} {vs : List V} {ds : List D} : G a = some (.tup vs) → RepL K w G vs ds → Rep K w G (.ref a) (.tup ds)
  | ktup {a : Addr} {vs : List V} {ds : List D} : (∃ (o : Obj) (its : Array Value) (n : Nat), K.lookup a = some o ∧ o.cls = .type "tuple" ∧ o.data = .seq its n ∧ its.size ≤ sizeLine ∧ Vals vs its.toList) → RepL K w G vs ds → Rep K w G (.ref a) (.ktup ds)
  | lst {a : Addr} {vs : List V} {ds : List D} : G a = some (.lst vs) → RepL K w G vs ds → Rep K w G (.ref a) (.lst ds)
  | dicK {a : Addr} {kvs : List (Key × V)} {ds : List (D × D)} : Rd G a (.dK kvs) → RepK K w G kvs ds → Rep K w G (.ref a) (.dic false ds)
  | dicT {a : Addr} {kvs : List (List Key × V)} {ds : List (D × D)} : Rd G a (.dT kvs) → RepT K w G kvs ds → Rep K w G (.ref a) (.dic true ds)
  | dicC {a : Addr} {ds : List (D × D)} : RepC K w G a ds → Rep K w G (.ref a) (.kdic ds)
  | exc {a C : Addr} {d : Option Addr} {x : Str} {fs : List (Str × V)} {ds : List (D × D)} : G a = some (exO C d a) → PySem.W.nsIn K mainGlobals x = some (some (.ref C)) → XF G d fs → RepK K w G (keysF fs) ds → Rep K w G (.ref a) (.exc x ds)
  | dix {a a' : Addr} {kvs : List (PySem.NestedKey × Addr × V)} {ds : List (D × D)} : Rd G a (dxO w a' kvs) → RepN K w G kvs ds → Rep K w G (.ref a) (.dix ds)
  | ins {a C dx : Addr} {x : Str} {fs : List (Str × V)} {ds : List (D × D)} : G a = some (.ins C dx fs) → G dx = some (.own a) → PySem.W.nsIn K mainGlobals x = some (some (.ref C)) → RepK K w G (keysF fs) ds → Rep K w G (.ref a) (.ins x ds)
inductive RepL (K : PySem.W.Frag) (w : World) (G : Hp) : List V → List D → Prop
  | nil : RepL K w G [] []
  | cons {v : V} {vs : List V} {d : D} {ds : List D} : Rep K w G v d → RepL K w G vs ds → RepL K w G (v :: vs) (d :: ds)
inductive RepK (K : PySem.W.Frag) (w : World) (G : Hp) : List (Key × V) → List (D × D) → Prop
  | nil : RepK K w G [] []
  | cons {k : Key} {v : V} {vs : List (Key × V)} {d : D} {ds : List (D × D)} : Rep K w G v d → RepK K w G vs ds → RepK K w G ((k, v) :: vs) ((keyD k, d) :: ds)
inductive RepT (K : PySem.W.Frag) (w : World) (G : Hp) : List (List Key × V) → List (D × D) → Prop
  | nil : RepT K w G [] []
  | cons {k : List Key} {v : V} {vs : List (List Key × V)} {d : D} {ds : List (D × D)} : Rep K w G v d → RepT K w G vs ds → RepT K w G ((k, v) :: vs) ((keysD k, d) :: ds)
inductive RepN (K : PySem.W.Frag) (w : World) (G : Hp) : List (PySem.NestedKey × Addr × V) → List (D × D) → Prop
  | nil : RepN K w G [] []
  | cons {k : PySem.NestedKey} {ka : Addr} {v : V} {kd d : D} {vs : List (PySem.NestedKey × Addr × V)} {ds : List (D × D)} : nkD kd = some k → k.depth ≤ 8 → Rep K w G (.ref ka) kd → Rep K w G v d → RepN K w G vs ds → RepN K w G ((k, ka, v) :: vs) ((kd, d) :: ds)
/-- a written dict, keys texts -/
inductive RepC (K : PySem.W.Frag) (w : World) (G : Hp) : Addr → List (D × D) → Prop
  | nil {a : Addr} : RepC K w G a []
  | cons {a : Addr} {x : Str} {v : V} {d : D} {ds : List (D × D)} : KDct K w a x v → Rep K w G v d → RepC K w G a ds → RepC K w G a ((.str x, d) :: ds)
end
theorem Rd.mono {G H : Hp} (s : Same G H) {a : Addr} {u : HO} (h : Rd G a u) : Rd H a u := by
  rcases h with h | ⟨o, h⟩
  · exact .inl (s _ _ h)
  · exact .inr ⟨o, s _ _ h⟩
section
variable {K : PySem.W.Frag} {w : World} {G H : Hp}
mutual
theorem Rep.mono (s : Same G H) : ∀ {v : V} {d : D}, Rep K w G v d → Rep K w H v d
  | _, _, .non => .non
  | _, _, .bl b => .bl b
  | _, _, .int i => .int i
  | _, _, .str x => .str x
  | _, _, .ty n => .ty n
  | _, _, .tup h r => .tup (s _ _ h) (RepL.mono s r)
  | _, _, .ktup h r => .ktup h (RepL.mono s r)
  | _, _, .lst h r => .lst (s _ _ h) (RepL.mono s r)
  | _, _, .dicK h r => .dicK (Rd.mono s h) (RepK.mono s r)
  | _, _, .dicT h r => .dicT (Rd.mono s h) (RepT.mono s r)
  | _, _, .dicC r => .dicC (RepC.mono s r)
  | _, _, .exc h1 h2 h3 r => .exc (s _ _ h1) h2 (h3.mono s) (RepK.mono s r)
  | _, _, .dix h r => .dix (Rd.mono s h) (RepN.mono s r)
  | _, _, .ins h1 h2 h3 r => .ins (s _ _ h1) (s _ _ h2) h3 (RepK.mono s r)
theorem RepL.mono (s : Same G H) : ∀ {v : List V} {d : List D}, RepL K w G v d → RepL K w H v d
  | _, _, .nil => .nil
  | _, _, .cons h r => .cons (Rep.mono s h) (RepL.mono s r)
theorem RepK.mono (s : Same G H) : ∀ {v : List (Key × V)} {d : List (D × D)}, RepK K w G v d → RepK K w H v d
  | _, _, .nil => .nil
  | _, _, .cons h r => .cons (Rep.mono s h) (RepK.mono s r)
theorem RepT.mono (s : Same G H) : ∀ {v : List (List Key × V)} {d : List (D × D)}, RepT K w G v d → RepT K w H v d
  | _, _, .nil => .nil
  | _, _, .cons h r => .cons (Rep.mono s h) (RepT.mono s r)
theorem RepN.mono (s : Same G H) : ∀ {v : List (PySem.NestedKey × Addr × V)} {d : List (D × D)}, RepN K w G v d → RepN K w H v d
  | _, _, .nil => .nil
  | _, _, .cons e h1 h2 h r => .cons e h1 (Rep.mono s h2) (Rep.mono s h) (RepN.mono s r)
theorem RepC.mono (s : Same G H) : ∀ {a : Addr} {d : List (D × D)}, RepC K w G a d → RepC K w H a d
  | _, _, .nil => .nil
  | _, _, .cons h r t => .cons h (Rep.mono s r) (RepC.mono s t)
end
end
theorem RepL.length {K : PySem.W.Frag} {w : World} {G : Hp} : ∀ {vs : List V} {ds : List D}, RepL K w G vs ds → vs.length = ds.length
  | _, _, .nil => rfl
  | _, _, .cons _ r => by rw [List.length_cons, List.length_cons, RepL.length r]
theorem RepL.append {K : PySem.W.Frag} {w : World} {G : Hp} : ∀ {vs : List V} {ds : List D} {us : List V} {es : List D}, RepL K w G vs ds → RepL K w G us es → RepL K w G (vs ++ us) (ds ++ es)
  | _, _, _, _, .nil, q => q
  | _, _, _, _, .cons h r, q => .cons h (RepL.append r q)
theorem RepL.get {K : PySem.W.Frag} {w : World} {G : Hp} : ∀ {vs : List V} {ds : List D} {i : Nat} {d : D}, RepL K w G vs ds → ds[i]? = some d → ∃ v, vs[i]? = some v ∧ Rep K w G v d
  | _, _, _, _, .nil, e => by simp at e
  | _, _, 0, _, .cons h _, e => by
    simp at e
    subst e
    exact ⟨_, rfl, h⟩
  | _, _, i + 1, d, .cons _ r, e => by
    obtain ⟨v, h1, h2⟩ := RepL.get (i := i) (d := d) r (by simpa using e)
    exact ⟨v, by simpa using h1, h2⟩
theorem RepL.take {K : PySem.W.Frag} {w : World} {G : Hp} : ∀ {vs : List V} {ds : List D} (n : Nat), RepL K w G vs ds → RepL K w G (vs.take n) (ds.take n)
  | _, _, 0, _ => .nil
  | _, _, _ + 1, .nil => .nil
  | _, _, n + 1, .cons h r => .cons h (RepL.take n r)
theorem RepL.drop {K : PySem.W.Frag} {w : World} {G : Hp} : ∀ {vs : List V} {ds : List D} (n : Nat), RepL K w G vs ds → RepL K w G (vs.drop n) (ds.drop n)
  | _, _, 0, r => r
  | _, _, _ + 1, .nil => .nil
  | _, _, n + 1, .cons _ r => RepL.drop n r
theorem RepL.set {K : PySem.W.Frag} {w : World} {G : Hp} {x : V} {y : D} (q : Rep K w G x y) : ∀ {vs : List V} {ds : List D} (n : Nat), RepL K w G vs ds → RepL K w G (vs.set n x) (ds.set n y)
  | _, _, _, .nil => .nil
  | _, _, 0, .cons _ r => .cons q r
  | _, _, n + 1, .cons h r => .cons h (RepL.set q n r)
theorem RepL.reverse {K : PySem.W.Frag} {w : World} {G : Hp} {vs : List V} {ds : List D} (h : RepL K w G vs ds) : RepL K w G vs.reverse ds.reverse := by
  induction vs generalizing ds with
  | nil => cases h; exact .nil
  | cons v vs ih =>
    cases h with
    | cons h r =>
      rw [List.reverse_cons, List.reverse_cons]
      exact (ih r).append (.cons h .nil)

/-- readable at the top in H, what is in it in G -/
def RD (K : PySem.W.Frag) (w : World) (H G : Hp) (v : V) : D → Prop
  | .lst ds => ∃ a vs, v = .ref a ∧ SqL K H a vs ∧ RepL K w G vs ds
  | .dic false ds => ∃ a kvs, v = .ref a ∧ Rd H a (.dK kvs) ∧ RepK K w G kvs ds
  | .dic true ds => ∃ a kvs, v = .ref a ∧ Rd H a (.dT kvs) ∧ RepT K w G kvs ds
  | .dix ds => ∃ a a' kvs, v = .ref a ∧ Rd H a (dxO w a' kvs) ∧ RepN K w G kvs ds
  | d => Rep K w G v d
theorem Rep.rd {K : PySem.W.Frag} {w : World} {H G : Hp} {v : V} {d : D} (s : Same G H) (h : Rep K w G v d) : RD K w H G v d := by
  cases h with
  | tup h r => exact Rep.tup h r
  | ktup h r => exact Rep.ktup h r
  | lst h r => exact ⟨_, _, rfl, .inl (.inl (s _ _ h)), r⟩
  | dicK h r => exact ⟨_, _, rfl, Rd.mono s h, r⟩
  | dicT h r => exact ⟨_, _, rfl, Rd.mono s h, r⟩
  | dicC r => exact Rep.dicC r
  | exc h1 h2 h3 r => exact Rep.exc h1 h2 h3 r
  | dix h r => exact ⟨_, _, _, rfl, Rd.mono s h, r⟩
  | ins h1 h2 h3 r => exact Rep.ins h1 h2 h3 r
  | non => exact Rep.non
  | bl b => exact Rep.bl b
  | int b => exact Rep.int b
  | str b => exact Rep.str b
  | ty b => exact Rep.ty b
theorem RD.mono {K : PySem.W.Frag} {w : World} {H H' G G' : Hp} {v : V} {d : D} (s : Same H H') (t : Same G G') (h : RD K w H G v d) : RD K w H' G' v d := by
  cases d with
  | tup ds => exact Rep.mono t h
  | ktup ds => exact Rep.mono t h
  | kdic ds => exact Rep.mono t h
  | exc x ds => exact Rep.mono t h
  | dix ds => obtain ⟨a, a', kvs, e, q, r⟩ := h; exact ⟨a, a', kvs, e, Rd.mono s q, r.mono t⟩
  | ins x ds => exact Rep.mono t h
  | lst ds => obtain ⟨a, vs, e, q, r⟩ := h; exact ⟨a, vs, e, s.seq q, r.mono t⟩
  | dic b ds =>
    cases b with
    | false => obtain ⟨a, kvs, e, q, r⟩ := h; exact ⟨a, kvs, e, Rd.mono s q, r.mono t⟩
    | true => obtain ⟨a, kvs, e, q, r⟩ := h; exact ⟨a, kvs, e, Rd.mono s q, r.mono t⟩
  | non => exact Rep.mono t h
  | bl b => exact Rep.mono t h
  | int b => exact Rep.mono t h
  | str b => exact Rep.mono t h
  | ty b => exact Rep.mono t h
/-- all of it in H -/
def D.isL : D → Bool
  | .lst _ => true
  | _ => false
theorem RD.rep {K : PySem.W.Frag} {w : World} {H G : Hp} {v : V} {d : D} (s : Same G H) (h : RD K w H G v d) (hd : d.isL = false) : Rep K w H v d := by
  cases d with
  | tup ds => exact Rep.mono s h
  | ktup ds => exact Rep.mono s h
  | kdic ds => exact Rep.mono s h
  | exc x ds => exact Rep.mono s h
  | dix ds => obtain ⟨a, a', kvs, rfl, q, r⟩ := h; exact .dix q (r.mono s)
  | ins x ds => exact Rep.mono s h
  | lst ds => cases hd
  | dic b ds =>
    cases b with
    | false => obtain ⟨a, kvs, rfl, q, r⟩ := h; exact .dicK q (r.mono s)
    | true => obtain ⟨a, kvs, rfl, q, r⟩ := h; exact .dicT q (r.mono s)
  | non => exact Rep.mono s h
  | bl b => exact Rep.mono s h
  | int b => exact Rep.mono s h
  | str b => exact Rep.mono s h
  | ty b => exact Rep.mono s h

/-- the object at a, ours alone to change -/
def OwnO (K : PySem.W.Frag) (w : World) (G : Hp) : D → HO → Prop
  | .lst ds, o => ∃ vs, o = .lst vs ∧ RepL K w G vs ds
  | .dic false ds, o => ∃ kvs, o = .dK kvs ∧ RepK K w G kvs ds
  | .dic true ds, o => ∃ kvs, o = .dT kvs ∧ RepT K w G kvs ds
  | .dix ds, o => ∃ a kvs, o = dxO w a kvs ∧ RepN K w G kvs ds
  | _, _ => False
theorem OwnO.mono {K : PySem.W.Frag} {w : World} {G G' : Hp} {d : D} {o : HO} (t : Same G G') (h : OwnO K w G d o) : OwnO K w G' d o := by
  cases d with
  | lst ds => obtain ⟨vs, e, r⟩ := h; exact ⟨vs, e, r.mono t⟩
  | dic b ds =>
    cases b with
    | false => obtain ⟨vs, e, r⟩ := h; exact ⟨vs, e, r.mono t⟩
    | true => obtain ⟨vs, e, r⟩ := h; exact ⟨vs, e, r.mono t⟩
  | dix ds => obtain ⟨a, vs, e, r⟩ := h; exact ⟨a, vs, e, r.mono t⟩
  | _ => exact h.elim
theorem OwnO.rd {K : PySem.W.Frag} {w : World} {G H : Hp} {d : D} {o : HO} {a : Addr} (h : OwnO K w G d o) (e : H a = some o) : RD K w H G (.ref a) d := by
  cases d with
  | lst ds => obtain ⟨vs, rfl, r⟩ := h; exact ⟨a, vs, rfl, .inl (.inl e), r⟩
  | dic b ds =>
    cases b with
    | false => obtain ⟨vs, rfl, r⟩ := h; exact ⟨a, vs, rfl, .inl e, r⟩
    | true => obtain ⟨vs, rfl, r⟩ := h; exact ⟨a, vs, rfl, .inl e, r⟩
  | dix ds => obtain ⟨a', vs, rfl, r⟩ := h; exact ⟨a, a', vs, rfl, .inl e, r⟩
  | _ => exact h.elim
theorem OwnO.rep {K : PySem.W.Frag} {w : World} {G : Hp} {d : D} {o : HO} {a : Addr} (h : OwnO K w G d o) (e : G a = none) : Rep K w (upd G a o) (.ref a) d := by
  have s : Same G (upd G a o) := fun b u q => by rw [upd_ne (ne_of_none q e)]; exact q
  have h2 := h.mono s
  cases d with
  | lst ds => obtain ⟨vs, rfl, r⟩ := h2; exact .lst upd_same r
  | dic b ds =>
    cases b with
    | false => obtain ⟨vs, rfl, r⟩ := h2; exact .dicK (.inl upd_same) r
    | true => obtain ⟨vs, rfl, r⟩ := h2; exact .dicT (.inl upd_same) r
  | dix ds => obtain ⟨a', vs, rfl, r⟩ := h2; exact .dix (.inl upd_same) r
  | _ => exact h2.elim
theorem same_new {H : Hp} {p : Addr} {o : HO} (h : H p = none) : Same H (upd H p o) := fun b x e => by
  rw [upd_ne (ne_of_none e h)]
  exact e

/-! ### environments -/
inductive Slot where
  | emp | val (d : D) | own (d : D) | bor (d : D)
abbrev Env := List Slot
inductive RV where
  | val (d : D) | fr (d : D) | slot (i : Nat)
def rd (env : Env) : RV → Option D
  | .val d => some d
  | .fr d => some d
  | .slot i => match env[i]? with
    | some (.val d) => some d
    | some (.own d) => some d
    | some (.bor d) => some d
    | _ => none
def isTupO : HO → Bool
  | .tup _ => true
  | _ => false
/-- nothing of ours to change: nothing, or a tuple -/
def Nu (B : Hp) (a : Addr) : Prop := ∀ o, B a = some o → isTupO o = true
theorem Nu.of {B : Hp} {a : Addr} (h : B a = none) : Nu B a := fun o e => by rw [h] at e; cases e
theorem Nu.less {B B' : Hp} {a : Addr} (s : Same B B') (h : Nu B' a) : Nu B a := fun o e => h o (s _ _ e)
theorem OwnO.notTup {K : PySem.W.Frag} {w : World} {G : Hp} {d : D} {o : HO} (h : OwnO K w G d o) : isTupO o = false := by
  cases d with
  | lst ds => obtain ⟨vs, e, r⟩ := h; rw [e]; rfl
  | dic b ds =>
    cases b with
    | false => obtain ⟨vs, e, r⟩ := h; rw [e]; rfl
    | true => obtain ⟨vs, e, r⟩ := h; rw [e]; rfl
  | dix ds => obtain ⟨a', vs, e, r⟩ := h; rw [e]; rfl
  | _ => exact h.elim
/-- G' is more than G, and what is more is none of B -/
def Ext (B G G' : Hp) : Prop := Same G G' ∧ ∀ a, G' a ≠ none → G a ≠ none ∨ Nu B a
theorem Ext.refl (B G : Hp) : Ext B G G := ⟨Same.refl _, fun _ h => .inl h⟩
theorem Ext.trans {B G G1 G2 : Hp} (a : Ext B G G1) (b : Ext B G1 G2) : Ext B G G2 := ⟨a.1.trans b.1, fun p h => (b.2 p h).elim (a.2 p) .inr⟩
theorem Ext.less {B B' G G' : Hp} (s : Same B B') (a : Ext B' G G') : Ext B G G' := ⟨a.1, fun p h => (a.2 p h).imp id fun q => q.less s⟩
theorem Ext.none {B G G' : Hp} (a : Ext B G G') {p : Addr} (h : G p = none) (hb : ∃ o, B p = some o ∧ isTupO o = false) : G' p = none := by
  cases e : G' p with
  | none => rfl
  | some o =>
    rcases a.2 p (by rw [e]; simp) with q | q
    · exact absurd h q
    · obtain ⟨o', h1, h2⟩ := hb
      rw [q o' h1] at h2
      cases h2

/-- a module's facts and a def's names -/
structure Cfg where
  P : Program
  w : World
  K : PySem.W.Frag
  mg : Str → Option Value
  base : Heap
  N : List Str
  scope : Scope
  fn : Str → Bool
  k : Nat
  top : Bool
  calm : Bool
structure Good (c : Cfg) (X : Cx) : Prop where
  prog : X.prog = c.P
  w : X.w = c.w
  K : X.K = c.K
  mg : X.mg = c.mg
  base : X.base = c.base
  N : X.N = c.N
  nd : X.N.Nodup
  scope : X.env.scope = c.scope
  fn : X.fn = c.fn
  roomH : L2H.RoomH c.k X.A
  calmH : c.calm = true → X.calm = true ∧ X.A.handled = none
  po : PassesOwn (model X.prog X.w) X.A X.env X.xe
  stk : c.top = true → X.stack = X.env :: X.outer ∧ X.env.frame = some X.env.locals ∧ X.ex = []

theorem Good.calm {c : Cfg} {X : Cx} (g : Good c X) (hc : c.calm = true := by rfl) : X.calm = true := (g.calmH hc).1
theorem Good.room {c : Cfg} {X : Cx} (g : Good c X) (hc : c.calm = true := by rfl) : Room c.k X.A := ⟨(g.calmH hc).2, g.roomH.dp, g.roomH.un⟩
theorem Good.un {c : Cfg} {X : Cx} (g : Good c X) : X.A.units + 64 < cLine := by have := g.roomH.un; omega
theorem Good.hu {c : Cfg} {X : Cx} (g : Good c X) : X.A.units + 1 < cLine := by have := g.roomH.un; omega
structure RepEnv (c : Cfg) (G B H : Hp) (σ : St) (env : Env) : Prop where
  gh : Same G H
  bh : Same B H
  len : σ.length = env.length
  val : ∀ (i : Nat) (d : D), env[i]? = some (Slot.val d) → ∃ v, σ[i]? = some (some v) ∧ Rep c.K c.w G v d
  own : ∀ (i : Nat) (d : D), env[i]? = some (Slot.own d) → ∃ a o, σ[i]? = some (some (V.ref a)) ∧ G a = none ∧ B a = none ∧ H a = some o ∧ OwnO c.K c.w G d o
  bor : ∀ (i : Nat) (d : D), env[i]? = some (Slot.bor d) → ∃ v, σ[i]? = some (some v) ∧ RD c.K c.w B G v d
  dis : ∀ (i j : Nat) (d d' : D) (a : Addr), env[i]? = some (Slot.own d) → env[j]? = some (Slot.own d') → σ[i]? = some (some (V.ref a)) → σ[j]? = some (some (V.ref a)) → i = j

def RepR (c : Cfg) (G B H : Hp) (σ : St) (env : Env) (v : V) : RV → Prop
  | .val d => Rep c.K c.w G v d
  | .fr d => ∃ a o, v = .ref a ∧ G a = none ∧ B a = none ∧ H a = some o ∧ OwnO c.K c.w G d o ∧ ∀ (i : Nat) (d' : D), env[i]? = some (Slot.own d') → σ[i]? ≠ some (some (V.ref a))
  | .slot i => σ[i]? = some (some v) ∧ ∃ d, rd env (.slot i) = some d
/-- what stays of an environment while an expression runs: what is read stays read by the same data or is frozen -/
def Keeps (env env' : Env) : Prop := env'.length = env.length ∧ ∀ (i : Nat) (d' : D), env'[i]? = some (.bor d') → env[i]? = some (.bor d')
theorem Keeps.refl (env : Env) : Keeps env env := ⟨rfl, fun _ _ h => h⟩
theorem Keeps.trans {a b c : Env} (h : Keeps a b) (q : Keeps b c) : Keeps a c := ⟨q.1.trans h.1, fun i d e => h.2 i d (q.2 i d e)⟩
/-- what is known of such a dict, and that it stands there -/
theorem dx_rd {P : Program} {w w0 : World} {H : Hp} {h : Heap} {a a' : Addr} {kvs : List (PySem.NestedKey × Addr × V)} (ok : HOk P w H h) (e : Rd H a (dxO w0 a' kvs)) : a' = a ∧ dxOk w0 a kvs h := by
  obtain ⟨hp, _, st⟩ := (show ObjOk P w H h a (.ext (dxOk w0 a' kvs)) from e.ok ok)
  have ea : a' = a := by
    by_cases ea : a' = a
    · exact ea
    · exfalso
      obtain ⟨_, _, xs, _, o, es, ep, q, _⟩ := st h (PySem.W.hideAll h [a']) hp fun o q => PySem.W.hideAll_get _ q fun hm => ea (List.mem_singleton.mp hm).symm
      rw [PySem.W.hideAll_none [a'] (List.mem_singleton.mpr rfl)] at q
      cases q
  subst ea
  exact ⟨rfl, hp⟩
end VS

namespace VS
open PySem PySem.Spec L2

/-! ### what running does to the environment -/
/-- from (G, H) to (G', H'): nothing that stood is changed, what is new in G' is new -/
structure Res (G H G' H' : Hp) : Prop where
  hh : Same H H'
  gg : Same G G'
  gh : Same G' H'
  fresh : ∀ a, G' a ≠ none → G a ≠ none ∨ Nu H a
theorem Res.refl {G H : Hp} (s : Same G H) : Res G H G H := ⟨Same.refl _, Same.refl _, s, fun _ h => .inl h⟩
def ResR (c : Cfg) (G' H H' : Hp) (v : V) : RV → Prop
  | .val d => Rep c.K c.w G' v d
  | .fr d => ∃ a o, v = .ref a ∧ H a = none ∧ G' a = none ∧ H' a = some o ∧ OwnO c.K c.w G' d o
  | .slot _ => False
theorem Res.none {G H G' H' : Hp} (r : Res G H G' H') {a : Addr} (h : G a = none) (hh : ∃ o, H a = some o ∧ isTupO o = false) : G' a = none := by
  cases e : G' a with
  | none => rfl
  | some o =>
    rcases r.fresh a (by rw [e]; simp) with q | q
    · exact absurd h q
    · obtain ⟨o', h1, h2⟩ := hh
      rw [q o' h1] at h2
      cases h2
section
variable {c : Cfg} {G B H G' H' : Hp} {σ : St} {env : Env} {v : V} {rv : RV} {d : D}
theorem Res.ext (r : Res G H G' H') (bh : Same B H) : Ext B G G' := ⟨r.gg, fun a h => (r.fresh a h).imp id fun q => q.less bh⟩
theorem RepEnv.go (E : RepEnv c G B H σ env) (r : Res G H G' H') : RepEnv c G' B H' σ env where
  gh := r.gh
  bh := E.bh.trans r.hh
  len := E.len
  val := fun i d e => by
    obtain ⟨v, h1, h2⟩ := E.val i d e
    exact ⟨v, h1, h2.mono r.gg⟩
  own := fun i d e => by
    obtain ⟨a, o, h1, h2, h3, h4, h5⟩ := E.own i d e
    exact ⟨a, o, h1, r.none h2 ⟨o, h4, h5.notTup⟩, h3, r.hh _ _ h4, h5.mono r.gg⟩
  bor := fun i d e => by
    obtain ⟨v, h1, h2⟩ := E.bor i d e
    exact ⟨v, h1, h2.mono (Same.refl _) r.gg⟩
  dis := E.dis
theorem RepEnv.goR (E : RepEnv c G B H σ env) (r : Res G H G' H') (q : ResR c G' H H' v rv) : RepR c G' B H' σ env v rv := by
  cases rv with
  | val d => exact q
  | slot i => exact q.elim
  | fr d =>
    obtain ⟨a, o, e, h1, h2, h3, h4⟩ := q
    refine ⟨a, o, e, h2, E.bh.free h1, h3, h4, fun i d' ei es => ?_⟩
    obtain ⟨b, o', k1, k2, k3, k4, k5⟩ := E.own i d' ei
    rw [es] at k1
    cases k1
    rw [h1] at k4
    cases k4
/-- a fresh value is kept from then on -/
def RV.hold : RV → RV
  | .fr d => .val d
  | r => r
/-- a held value -/
def RepH (c : Cfg) (G : Hp) (σ : St) (v : V) : RV → Prop
  | .val d => Rep c.K c.w G v d
  | .fr _ => False
  | .slot i => σ[i]? = some (some v)
theorem RepH.mono (h : RepH c G σ v rv) (s : Same G G') : RepH c G' σ v rv := by
  cases rv with
  | val d => exact Rep.mono s h
  | fr d => exact h.elim
  | slot i => exact h
theorem RepR.hold (E : RepEnv c G B H σ env) (r : RepR c G B H σ env v rv) : ∃ G', Ext B G G' ∧ RepEnv c G' B H σ env ∧ RepH c G' σ v rv.hold := by
  cases rv with
  | val d => exact ⟨G, Ext.refl _ _, E, r⟩
  | slot i => exact ⟨G, Ext.refl _ _, E, r.1⟩
  | fr d =>
    obtain ⟨a, o, rfl, h1, h2, h3, h4, h5⟩ := r
    refine ⟨upd G a o, ⟨same_new h1, fun p hp => ?_⟩, ⟨fun b u q => ?_, E.bh, E.len, fun i d' e => ?_, fun i d' e => ?_, fun i d' e => ?_, E.dis⟩, h4.rep h1⟩
    · by_cases e : p = a
      · exact .inr (by rw [e]; exact Nu.of h2)
      · rw [upd_ne e] at hp
        exact .inl hp
    · by_cases e : b = a
      · subst e
        rw [upd_same] at q
        cases q
        exact h3
      · rw [upd_ne e] at q
        exact E.gh b u q
    · obtain ⟨v, k1, k2⟩ := E.val i d' e
      exact ⟨v, k1, k2.mono (same_new h1)⟩
    · obtain ⟨b, o', k1, k2, k3, k4, k5⟩ := E.own i d' e
      have ne : b ≠ a := fun z => h5 i d' e (by rw [← z]; exact k1)
      exact ⟨b, o', k1, by rw [upd_ne ne]; exact k2, k3, k4, k5.mono (same_new h1)⟩
    · obtain ⟨v, k1, k2⟩ := E.bor i d' e
      exact ⟨v, k1, k2.mono (Same.refl _) (same_new h1)⟩
theorem RepEnv.slot_rd {i : Nat} (E : RepEnv c G B H σ env) (e : rd env (.slot i) = some d) (h : σ[i]? = some (some v)) : RD c.K c.w H G v d := by
  unfold rd at e
  simp only at e
  split at e
  · rename_i d' q
    cases e
    obtain ⟨u, k1, k2⟩ := E.val i _ q
    rw [h] at k1
    cases k1
    exact k2.rd E.gh
  · rename_i d' q
    cases e
    obtain ⟨a, o, k1, k2, k3, k4, k5⟩ := E.own i _ q
    rw [h] at k1
    cases k1
    exact k5.rd k4
  · rename_i d' q
    cases e
    obtain ⟨u, k1, k2⟩ := E.bor i _ q
    rw [h] at k1
    cases k1
    exact k2.mono E.bh (Same.refl _)
  · cases e
theorem RepEnv.rdH (E : RepEnv c G B H σ env) (h : RepH c G σ v rv) (e : rd env rv = some d) : RD c.K c.w H G v d := by
  cases rv with
  | val d' =>
    cases e
    exact Rep.rd E.gh h
  | fr d' => exact h.elim
  | slot i => exact E.slot_rd e h
theorem RepEnv.rdR (E : RepEnv c G B H σ env) (h : RepR c G B H σ env v rv) (e : rd env rv = some d) : RD c.K c.w H G v d := by
  cases rv with
  | val d' =>
    cases e
    exact Rep.rd E.gh h
  | fr d' =>
    cases e
    obtain ⟨a, o, rfl, h1, h2, h3, h4, h5⟩ := h
    exact h4.rd h3
  | slot i => exact E.slot_rd e h.1
/-- the value is shared from then on -/
def fz (env : Env) : RV → Option (D × Env)
  | .val d => some (d, env)
  | .fr d => some (d, env)
  | .slot i => match env[i]? with
    | some (.val d) => some (d, env)
    | some (.own d) => some (d, env.set i (.val d))
    | some (.bor (.tup xs)) => some (.tup xs, env)
    | some (.bor (.str x)) => some (.str x, env)
    | some (.bor (.int x)) => some (.int x, env)
    | some (.bor (.bl x)) => some (.bl x, env)
    | _ => none
theorem RepR.fz {env' : Env} (E : RepEnv c G B H σ env) (r : RepR c G B H σ env v rv) (e : VS.fz env rv = some (d, env')) :
    ∃ G', Ext B G G' ∧ RepEnv c G' B H σ env' ∧ Rep c.K c.w G' v d ∧ Keeps env env' := by
  cases rv with
  | val d' =>
    cases e
    exact ⟨G, Ext.refl _ _, E, r, Keeps.refl _⟩
  | fr d' =>
    cases e
    obtain ⟨G', h1, h2, h3⟩ := RepR.hold E r
    exact ⟨G', h1, h2, h3, Keeps.refl _⟩
  | slot i =>
    unfold VS.fz at e
    simp only at e
    split at e
    · rename_i d' q
      cases e
      obtain ⟨u, k1, k2⟩ := E.val i _ q
      rw [r.1] at k1
      cases k1
      exact ⟨G, Ext.refl _ _, E, k2, Keeps.refl _⟩
    · rename_i d' q
      cases e
      obtain ⟨a, o, k1, h1, h2, h3, h4⟩ := E.own i _ q
      have k0 := r.1
      rw [k1] at k0
      have ev : V.ref a = v := Option.some.inj (Option.some.inj k0)
      subst ev
      have hi : i < env.length := (List.getElem?_eq_some_iff.mp q).1
      have old : ∀ {j : Nat} {s : Slot}, (env.set i (.val d))[j]? = some s → (j = i ∧ s = .val d) ∨ (j ≠ i ∧ env[j]? = some s) := fun {j s} ej => by
        by_cases z : j = i
        · subst z
          rw [List.getElem?_set_self hi] at ej
          exact .inl ⟨rfl, (Option.some.inj ej).symm⟩
        · rw [List.getElem?_set_ne (Ne.symm z)] at ej
          exact .inr ⟨z, ej⟩
      refine ⟨upd G a o, ⟨same_new h1, fun p hp => ?_⟩, ⟨fun b u q => ?_, E.bh, by rw [List.length_set]; exact E.len, fun j d' e => ?_, fun j d' e => ?_, fun j d' e => ?_, fun j k d1 d2 b e1 e2 => ?_⟩, h4.rep h1, List.length_set, fun j d' e => ?_⟩
      · by_cases e : p = a
        · exact .inr (by rw [e]; exact Nu.of h2)
        · rw [upd_ne e] at hp
          exact .inl hp
      · by_cases e : b = a
        · subst e
          rw [upd_same] at q
          cases q
          exact h3
        · rw [upd_ne e] at q
          exact E.gh b u q
      · rcases old e with ⟨rfl, es⟩ | ⟨ne, e'⟩
        · cases es
          exact ⟨_, k1, h4.rep h1⟩
        · obtain ⟨v, k1, k2⟩ := E.val j d' e'
          exact ⟨v, k1, k2.mono (same_new h1)⟩
      · rcases old e with ⟨rfl, es⟩ | ⟨ne, e'⟩
        · cases es
        · obtain ⟨b, o', m1, m2, m3, m4, m5⟩ := E.own j d' e'
          have nb : b ≠ a := fun z => ne (E.dis j i d' _ a e' q (by rw [← z]; exact m1) k1)
          exact ⟨b, o', m1, by rw [upd_ne nb]; exact m2, m3, m4, m5.mono (same_new h1)⟩
      · rcases old e with ⟨rfl, es⟩ | ⟨ne, e'⟩
        · cases es
        · obtain ⟨v, m1, m2⟩ := E.bor j d' e'
          exact ⟨v, m1, m2.mono (Same.refl _) (same_new h1)⟩
      · rcases old e1 with ⟨rfl, es⟩ | ⟨ne1, e1'⟩
        · cases es
        · rcases old e2 with ⟨rfl, es⟩ | ⟨ne2, e2'⟩
          · cases es
          · exact E.dis j k d1 d2 b e1' e2'
      · rcases old e with ⟨rfl, es⟩ | ⟨ne, e'⟩
        · cases es
        · exact e'
    iterate 4
      · rename_i q
        cases e
        obtain ⟨u, k1, k2⟩ := E.bor i _ q
        rw [r.1] at k1
        cases k1
        exact ⟨G, Ext.refl _ _, E, k2, Keeps.refl _⟩
    · cases e
end

/-! ### the judgements -/
/-- an error by its class's name and its fields -/
structure XD where
  cls : Str
  fs : List (D × D)
def RepX (c : Cfg) (G H : Hp) (cls : Value) (d : Option Addr) (x : XD) : Prop :=
  ∃ C, cls = .ref C ∧ PySem.W.nsIn c.K mainGlobals x.cls = some (some (.ref C)) ∧ ∃ fs, XF G d fs ∧ RepK c.K c.w G (keysF fs) x.fs
/-- what is only lent stays where it is -/
def BorS (env env' : Env) (σ σ' : St) : Prop := ∀ (i : Nat) (d : D), env'[i]? = some (Slot.bor d) → env[i]? = some (Slot.bor d) ∧ σ'[i]? = σ[i]?
theorem BorS.trans {e1 e2 e3 : Env} {s1 s2 s3 : St} (a : BorS e1 e2 s1 s2) (b : BorS e2 e3 s2 s3) : BorS e1 e3 s1 s3 := fun i d h => by
  obtain ⟨h1, h2⟩ := b i d h
  obtain ⟨h3, h4⟩ := a i d h1
  exact ⟨h3, h2.trans h4⟩
theorem BorS.refl (e : Env) (s : St) : BorS e e s s := fun i d h => ⟨h, rfl⟩
theorem Keeps.bors {e1 e2 : Env} (k : Keeps e1 e2) (s : St) : BorS e1 e2 s s := fun i d h => ⟨k.2 i d h, rfl⟩
abbrev XQ := XD → Env → Prop
abbrev ET := Env → (RV → Env → Prop) → XQ → Prop
abbrev TTt := Env → (Bool → Env → Prop) → XQ → Prop
abbrev AT := Env → (List RV → Env → Prop) → XQ → Prop
def WXo (c : Cfg) (G B : Hp) (σ : St) (env : Env) (Xq : XQ) : WX := fun cls d σ' H' =>
  ∃ x env' G', Xq x env' ∧ RepEnv c G' B H' σ' env' ∧ Ext B G G' ∧ BorS env env' σ σ' ∧ RepX c G' H' cls d x
theorem takes_up {X : Cx} {c : Cfg} {G B G1 : Hp} {σ : St} {env e1 : Env} {Xq : XQ} (t : Takes X (WXo c G B σ env Xq)) (x : Ext B G G1) (k : Keeps env e1) : Takes X (WXo c G1 B σ e1 Xq) :=
  t.imp fun cls d σ' H' ⟨xd, env', G', q, E, x', b, r⟩ => ⟨xd, env', G', q, E, x.trans x', BorS.trans (k.bors σ) b, r⟩
def TU (X : Cx) (e : Expr) : TE := fun σ H Q => ∀ (pins : List (Addr × Obj)) (s : Shared), Inv X pins σ H s → wpAny (model X.prog X.w) X.A (eval e X.env) (EP X pins σ Q) X.xe s
theorem pe_tu {X : Cx} {e : Expr} : PE X e (TU X e) := ⟨fun pins s σ H Q I h => h pins s I⟩
theorem TU.of {X : Cx} {e : Expr} {t : TE} {σ : St} {H : Hp} {Q : VK} (h : PE X e t) (q : t σ H Q) : TU X e σ H Q := fun pins s I => h.run pins s σ H Q I q
theorem TU.imp {X : Cx} {e : Expr} {σ : St} {H : Hp} {Q Q' : VK} (h : TU X e σ H Q) (q : ∀ v H', Q v H' → Q' v H') : TU X e σ H Q' := fun pins s I =>
  thn (h pins s I) fun u s' ⟨v, H', I', r, z⟩ => ⟨v, H', I', r, q v H' z⟩
def VQ (c : Cfg) (G B : Hp) (σ : St) (env : Env) (Q : RV → Env → Prop) : VK := fun v H' =>
  ∃ rv env' G', Q rv env' ∧ RepEnv c G' B H' σ env' ∧ Ext B G G' ∧ Keeps env env' ∧ RepR c G' B H' σ env' v rv
theorem VQ.up {c : Cfg} {G B G1 : Hp} {σ : St} {env e1 : Env} {Q : RV → Env → Prop} {v : V} {H' : Hp} (h : VQ c G1 B σ e1 Q v H') (x : Ext B G G1) (k : Keeps env e1) : VQ c G B σ env Q v H' := by
  obtain ⟨rv, env', G', q, E, x', k', r⟩ := h
  exact ⟨rv, env', G', q, E, x.trans x', k.trans k', r⟩
structure VE (c : Cfg) (e : Expr) (t : ET) : Prop where
  run : ∀ (X : Cx), Good c X → ∀ (G B H : Hp) (σ : St) (env : Env) (Q : RV → Env → Prop) (Xq : XQ),
  RepEnv c G B H σ env → t env Q Xq → Takes X (WXo c G B σ env Xq) → TU X e σ H (VQ c G B σ env Q)
/-- tests -/
def TUt (X : Cx) (e : Expr) : TT := fun σ H Q => ∀ (pins : List (Addr × Obj)) (s : Shared), Inv X pins σ H s → wpAny (model X.prog X.w) X.A (isTrue e X.env (eval e X.env)) (TP X pins σ Q) X.xe s
theorem pt_tu {X : Cx} {e : Expr} : PT X e (TUt X e) := ⟨fun pins s σ H Q I h => h pins s I⟩
theorem TUt.of {X : Cx} {e : Expr} {t : TT} {σ : St} {H : Hp} {Q : Bool → Hp → Prop} (h : PT X e t) (q : t σ H Q) : TUt X e σ H Q := fun pins s I => h.run pins s σ H Q I q
theorem TUt.imp {X : Cx} {e : Expr} {σ : St} {H : Hp} {Q Q' : Bool → Hp → Prop} (h : TUt X e σ H Q) (q : ∀ v H', Q v H' → Q' v H') : TUt X e σ H Q' := fun pins s I =>
  thn (h pins s I) fun u s' ⟨H', I', z⟩ => ⟨H', I', q u H' z⟩
def VQt (c : Cfg) (G B : Hp) (σ : St) (env : Env) (Q : Bool → Env → Prop) : Bool → Hp → Prop := fun b H' =>
  ∃ env' G', Q b env' ∧ RepEnv c G' B H' σ env' ∧ Ext B G G' ∧ Keeps env env'
theorem VQt.up {c : Cfg} {G B G1 : Hp} {σ : St} {env e1 : Env} {Q : Bool → Env → Prop} {b : Bool} {H' : Hp} (h : VQt c G1 B σ e1 Q b H') (x : Ext B G G1) (k : Keeps env e1) : VQt c G B σ env Q b H' := by
  obtain ⟨env', G', q, E, x', k'⟩ := h
  exact ⟨env', G', q, E, x.trans x', k.trans k'⟩
structure VT (c : Cfg) (e : Expr) (t : TTt) : Prop where
  run : ∀ (X : Cx), Good c X → ∀ (G B H : Hp) (σ : St) (env : Env) (Q : Bool → Env → Prop) (Xq : XQ),
  RepEnv c G B H σ env → t env Q Xq → Takes X (WXo c G B σ env Xq) → TUt X e σ H (VQt c G B σ env Q)
/-- a chain of and, or -/
def TUw (X : Cx) (e : Expr) : TT := fun σ H Q => ∀ (whole : Sem Value) (pins : List (Addr × Obj)) (s : Shared), Inv X pins σ H s → wpAny (model X.prog X.w) X.A (isTrue e X.env whole) (TP X pins σ Q) X.xe s
theorem pw_tu {X : Cx} {e : Expr} : PW X e (TUw X e) := ⟨fun whole pins s σ H Q I h => h whole pins s I⟩
structure VW (c : Cfg) (e : Expr) (t : TTt) : Prop where
  run : ∀ (X : Cx), Good c X → ∀ (G B H : Hp) (σ : St) (env : Env) (Q : Bool → Env → Prop) (Xq : XQ),
  RepEnv c G B H σ env → t env Q Xq → Takes X (WXo c G B σ env Xq) → TUw X e σ H (VQt c G B σ env Q)
theorem TUw.of {X : Cx} {e : Expr} {t : TT} {σ : St} {H : Hp} {Q : Bool → Hp → Prop} (h : PW X e t) (q : t σ H Q) : TUw X e σ H Q := fun whole pins s I => h.run whole pins s σ H Q I q
theorem TUw.imp {X : Cx} {e : Expr} {σ : St} {H : Hp} {Q Q' : Bool → Hp → Prop} (h : TUw X e σ H Q) (q : ∀ v H', Q v H' → Q' v H') : TUw X e σ H Q' := fun whole pins s I =>
  thn (h whole pins s I) fun u s' ⟨H', I', z⟩ => ⟨H', I', q u H' z⟩
/-- arguments -/
inductive RepHs (c : Cfg) (G : Hp) (σ : St) : List V → List RV → Prop
  | nil : RepHs c G σ [] []
  | cons {v : V} {vs : List V} {r : RV} {rs : List RV} : RepH c G σ v r → RepHs c G σ vs rs → RepHs c G σ (v :: vs) (r :: rs)
theorem RepHs.mono {c : Cfg} {G G' : Hp} {σ : St} (s : Same G G') : ∀ {vs : List V} {rs : List RV}, RepHs c G σ vs rs → RepHs c G' σ vs rs
  | _, _, .nil => .nil
  | _, _, .cons h r => .cons (h.mono s) (RepHs.mono s r)
def TUa (X : Cx) (es : List Expr) : TA := fun σ H Q => ∀ (pos : Pos) (pins : List (Addr × Obj)) (s : Shared), Inv X pins σ H s → wpAny (model X.prog X.w) X.A (spliced (backTo pos (starEach es X.env))) (AP X pins σ Q) X.xe s
theorem pa_tu {X : Cx} {es : List Expr} : PA X es (TUa X es) := ⟨fun pos pins s σ H Q I h => h pos pins s I⟩
theorem TUa.of {X : Cx} {e : List Expr} {t : TA} {σ : St} {H : Hp} {Q : List V → Hp → Prop} (h : PA X e t) (q : t σ H Q) : TUa X e σ H Q := fun pos pins s I => h.run pos pins s σ H Q I q
theorem TUa.imp {X : Cx} {e : List Expr} {σ : St} {H : Hp} {Q Q' : List V → Hp → Prop} (h : TUa X e σ H Q) (q : ∀ v H', Q v H' → Q' v H') : TUa X e σ H Q' := fun pos pins s I =>
  thn (h pos pins s I) fun u s' ⟨v, H', I', r, z⟩ => ⟨v, H', I', r, q v H' z⟩
def VQa (c : Cfg) (G B : Hp) (σ : St) (env : Env) (Q : List RV → Env → Prop) : List V → Hp → Prop := fun vs H' =>
  ∃ rvs env' G', Q rvs env' ∧ RepEnv c G' B H' σ env' ∧ Ext B G G' ∧ Keeps env env' ∧ RepHs c G' σ vs rvs
theorem VQa.up {c : Cfg} {G B G1 : Hp} {σ : St} {env e1 : Env} {Q : List RV → Env → Prop} {v : List V} {H' : Hp} (h : VQa c G1 B σ e1 Q v H') (x : Ext B G G1) (k : Keeps env e1) : VQa c G B σ env Q v H' := by
  obtain ⟨rv, env', G', q, E, x', k', r⟩ := h
  exact ⟨rv, env', G', q, E, x.trans x', k.trans k', r⟩
structure VA (c : Cfg) (es : List Expr) (t : AT) : Prop where
  run : ∀ (X : Cx), Good c X → ∀ (G B H : Hp) (σ : St) (env : Env) (Q : List RV → Env → Prop) (Xq : XQ),
  RepEnv c G B H σ env → t env Q Xq → Takes X (WXo c G B σ env Xq) → TUa X es σ H (VQa c G B σ env Q)

/-! ### names, constants -/
def eVar (i : Nat) : ET := fun env Q _ => match env[i]? with
  | some (.val d) => Q (.val d) env
  | some (.own _) => Q (.slot i) env
  | some (.bor _) => Q (.slot i) env
  | _ => False
def eC (d : D) : ET := fun env Q _ => Q (.val d) env
def VisC (c : Cfg) (i : Nat) (x : Str) : Prop := c.N[i]? = some x ∧ Vis c.scope x ∧ (x == ("__debug__" : Str)) = false ∧ (x == ("__classdict__" : Str)) = false
section
variable {c : Cfg} {pos : Pos}
theorem ve_var {i : Nat} {x : Str} (h : VisC c i x) : VE c (.Name x pos) (eVar i) := by
  constructor
  intro X g G B H σ env Q Xq E q tk
  obtain ⟨h1, h2, h3, h4⟩ := h
  refine TU.of (pe_var (by rw [g.N]; exact h1) (by rw [g.scope]; exact h2) h3 h4) ?_
  unfold eVar at q
  split at q
  · rename_i d e
    obtain ⟨v, k1, k2⟩ := E.val i d e
    exact ⟨v, k1, _, env, G, q, E, Ext.refl _ _, Keeps.refl _, k2⟩
  · rename_i d e
    obtain ⟨a, o, k1, _⟩ := E.own i d e
    exact ⟨_, k1, _, env, G, q, E, Ext.refl _ _, Keeps.refl _, k1, d, by unfold rd; simp [e]⟩
  · rename_i d e
    obtain ⟨v, k1, _⟩ := E.bor i d e
    exact ⟨_, k1, _, env, G, q, E, Ext.refl _ _, Keeps.refl _, k1, d, by unfold rd; simp [e]⟩
  · exact q.elim
theorem ve_of {e : Expr} {d : D} {v : V} (h : ∀ X, Good c X → PE X e (tC v)) (r : Rep c.K c.w (fun _ => none) v d) : VE c e (eC d) := by
  constructor
  intro X g G B H σ env Q Xq E q tk
  refine TU.of (h X g) ?_
  exact ⟨_, env, G, q, E, Ext.refl _ _, Keeps.refl _, r.mono fun b o z => absurd (show (none : Option HO) = some o from z) (by simp)⟩
theorem ve_int {i : Int} {j : Nat} : VE c (.Constant (.int i) j pos) (eC (.int i)) := ve_of (fun _ _ => pe_int) (.int i)
theorem ve_bl {i : Bool} {j : Nat} : VE c (.Constant (.bool i) j pos) (eC (.bl i)) := ve_of (fun _ _ => pe_bl) (.bl i)
theorem ve_non {j : Nat} : VE c (.Constant .none j pos) (eC .non) := ve_of (fun _ _ => pe_non) .non
theorem ve_str {x : Str} {j : Nat} : VE c (.Constant (.str x) j pos) (eC (.str x)) := ve_of (fun _ _ => pe_str) (.str x)
/-- a name of the module -/
def GlC (c : Cfg) (x : Str) : Prop := c.scope.names.lookup x = some .globalImplicit
theorem GlC.gl {X : Cx} {x : Str} (g : Good c X) (h : GlC c x) : Gl X x := by
  show X.env.scope.names.lookup x = some .globalImplicit
  rw [g.scope]
  exact h
/-- a written constant -/
structure Glb (c : Cfg) (x : Str) (d : D) : Prop where
  ex : ∃ u v, c.mg x = some u ∧ RelV v u ∧ Rep c.K c.w (fun _ => none) v d
theorem ve_glb {x : Str} {d : D} (G : Glb c x d) (hg : GlC c x) (hd : (x == ("__debug__" : Str)) = false) : VE c (.Name x pos) (eC d) := by
  obtain ⟨u, v, h1, h2, h3⟩ := G.ex
  exact ve_of (fun X g => pe_glob (hg.gl g) (by rw [g.mg]; exact h1) h2 hd) h3
end

/-! ### operators -/
def eOp2 (op : D → D → (RV → Prop) → Prop) (ta tb : ET) : ET := fun env Q Xq => ta env (fun ra e1 => tb e1 (fun rb e2 => ∃ da db, rd e2 ra.hold = some da ∧ rd e2 rb = some db ∧ op da db fun r => Q r e2) Xq) Xq
def eOp1 (op : D → (RV → Prop) → Prop) (ta : ET) : ET := fun env Q Xq => ta env (fun ra e1 => ∃ da, rd e1 ra = some da ∧ op da fun r => Q r e1) Xq
def Fin (c : Cfg) (G H : Hp) (P : RV → Prop) (K : VK) : Prop := ∀ rv v G' H', P rv → Res G H G' H' → ResR c G' H H' v rv → K v H'
/-- an operation by values does what op says -/
def OpS2 (c : Cfg) (r : R2) (op : D → D → (RV → Prop) → Prop) : Prop := ∀ (G H : Hp) (x y : V) (da db : D) (P : RV → Prop) (K : VK), Same G H → RD c.K c.w H G x da → RD c.K c.w H G y db → op da db P → Fin c G H P K → r x y H K
def OpS1 (c : Cfg) (r : V → Hp → VK → Prop) (op : D → (RV → Prop) → Prop) : Prop := ∀ (G H : Hp) (x : V) (da : D) (P : RV → Prop) (K : VK), Same G H → RD c.K c.w H G x da → op da P → Fin c G H P K → r x H K
def OpSn (c : Cfg) (r : List V → Hp → VK → Prop) (op : List D → (RV → Prop) → Prop) : Prop := ∀ (G H : Hp) (xs : List V) (ds : List D) (P : RV → Prop) (K : VK), Same G H → Paired (fun x d => RD c.K c.w H G x d) xs ds → op ds P → Fin c G H P K → r xs H K
section
variable {c : Cfg}
theorem run2 {X : Cx} {a b : Expr} {ta tb : ET} {r : R2} {op : D → D → (RV → Prop) → Prop} (hs : OpS2 c r op) (ha : VE c a ta) (hb : VE c b tb) (g : Good c X) {G B H : Hp} {σ : St} {env : Env} {Q : RV → Env → Prop} {Xq : XQ}
    (E : RepEnv c G B H σ env) (q : eOp2 op ta tb env Q Xq) (tk : Takes X (WXo c G B σ env Xq)) {K : VK} (hK : ∀ v H', VQ c G B σ env Q v H' → K v H') : tOp r (TU X a) (TU X b) σ H K := by
  refine (ha.run X g G B H σ env _ Xq E q tk).imp fun x H1 ⟨ra, e1, G1, q1, E1, x1, k1, r1⟩ => ?_
  obtain ⟨G2, x2, E2, h2⟩ := r1.hold E1
  refine (hb.run X g G2 B H1 σ e1 _ Xq E2 q1 (takes_up tk (x1.trans x2) k1)).imp fun y H2 ⟨rb, e2, G3, q3, E3, x3, k3, r3⟩ => ?_
  obtain ⟨da, db, d1, d2, o⟩ := q3
  refine hs G3 H2 x y da db _ _ E3.gh (E3.rdH (h2.mono x3.1) d1) (E3.rdR r3 d2) o fun rv v G' H' p res rr => hK v H' ?_
  exact ⟨rv, e2, G', p, E3.go res, ((x1.trans x2).trans x3).trans (res.ext E3.bh), k1.trans k3, E3.goR res rr⟩
theorem ve_op2 {e a b : Expr} {ta tb : ET} {r : R2} {op : D → D → (RV → Prop) → Prop} (hp : ∀ X, Good c X → PE X e (tOp r (TU X a) (TU X b))) (hs : OpS2 c r op) (ha : VE c a ta) (hb : VE c b tb) : VE c e (eOp2 op ta tb) :=
  ⟨fun X g G B H σ env Q Xq E q tk => TU.of (hp X g) (run2 hs ha hb g E q tk fun _ _ h => h)⟩
/-- arguments, from the left -/
def aNil : AT := fun env Q _ => Q [] env
def aCons (t : ET) (r : AT) : AT := fun env Q Xq => t env (fun x e1 => r e1 (fun xs e2 => Q (x.hold :: xs) e2) Xq) Xq
theorem va_nil : VA c [] aNil := by
  constructor
  intro X g G B H σ env Q Xq E q tk
  exact TUa.of pa_nil ⟨[], env, G, q, E, Ext.refl _ _, Keeps.refl _, .nil⟩
def noStar : Expr → Bool
  | .Starred .. => false
  | _ => true
theorem star_cons {e : Expr} {es : List Expr} {env : PySem.Env} (h : noStar e = true) : starEach (e :: es) env = (false, eval e env) :: starEach es env := by
  cases e <;> first | rfl | cases h
theorem va_cons {e : Expr} {es : List Expr} {t : ET} {r : AT} (h1 : VE c e t) (h2 : VA c es r) (hn : noStar e = true := by rfl) : VA c (e :: es) (aCons t r) := by
  constructor
  intro X g G B H σ env Q Xq E q tk
  refine TUa.of (pa_cons (pe_tu (e := e)) (pa_tu (es := es)) (star_cons hn)) ?_
  refine (h1.run X g G B H σ env _ Xq E q tk).imp fun x H1 ⟨ra, e1, G1, q1, E1, x1, k1, r1⟩ => ?_
  obtain ⟨G2, x2, E2, p2⟩ := r1.hold E1
  refine (h2.run X g G2 B H1 σ e1 _ Xq E2 q1 (takes_up tk (x1.trans x2) k1)).imp fun ys H2 ⟨rs, e2, G3, q3, E3, x3, k3, r3⟩ => ?_
  exact ⟨_, e2, G3, q3, E3, (x1.trans x2).trans x3, k1.trans k3, .cons (p2.mono x3.1) r3⟩
def rds (env : Env) : List RV → Option (List D)
  | [] => some []
  | r :: rs => match rd env r, rds env rs with
    | some d, some ds => some (d :: ds)
    | _, _ => none
theorem RepEnv.rds {G B H : Hp} {σ : St} {env : Env} (E : RepEnv c G B H σ env) : ∀ {vs : List V} {rs : List RV} {ds : List D}, RepHs c G σ vs rs → VS.rds env rs = some ds → Paired (fun x d => RD c.K c.w H G x d) vs ds
  | _, _, _, .nil, e => by cases e; exact .nil
  | _, _, _, .cons h r, e => by
    unfold VS.rds at e
    split at e
    · rename_i d ds' e1 e2
      cases e
      exact .cons (E.rdH h e1) (RepEnv.rds E r e2)
    · cases e
def eOpn (op : List D → (RV → Prop) → Prop) (ta : AT) : ET := fun env Q Xq => ta env (fun rs e1 => ∃ ds, rds e1 rs = some ds ∧ op ds fun r => Q r e1) Xq
theorem ve_opn {e : Expr} {es : List Expr} {ta : AT} {r : List V → Hp → VK → Prop} {op : List D → (RV → Prop) → Prop} (hp : ∀ X, Good c X → PE X e (fun σ H Q => TUa X es σ H fun xs H1 => r xs H1 Q)) (hs : OpSn c r op) (ha : VA c es ta) : VE c e (eOpn op ta) := by
  constructor
  intro X g G B H σ env Q Xq E q tk
  refine TU.of (hp X g) ?_
  refine (ha.run X g G B H σ env _ Xq E q tk).imp fun x H1 ⟨ra, e1, G1, q1, E1, x1, k1, r1⟩ => ?_
  obtain ⟨ds, d1, o⟩ := q1
  refine hs G1 H1 x ds _ _ E1.gh (E1.rds r1 d1) o fun rv v G' H' p res rr => ?_
  exact ⟨rv, e1, G', p, E1.go res, x1.trans (res.ext E1.bh), k1, E1.goR res rr⟩
end
end VS

namespace VS
open PySem PySem.Spec L2

/-! ### results -/
section
variable {c : Cfg} {G H : Hp} {P : RV → Prop} {K : VK}
theorem Fin.val {d : D} {v : V} (f : Fin c G H P K) (s : Same G H) (p : P (.val d)) (r : Rep c.K c.w G v d) : K v H := f _ v G H p (Res.refl s) r
theorem Fin.tup {ds : List D} {vs : List V} (f : Fin c G H P K) (s : Same G H) (p : P (.val (.tup ds))) (r : RepL c.K c.w G vs ds) : ∀ a, H a = none → K (.ref a) (upd H a (.tup vs)) := fun a ha => by
  have ga : G a = none := s.free ha
  refine f _ (.ref a) (upd G a (.tup vs)) _ p ⟨same_new ha, same_new ga, fun b u q => ?_, fun b hb => ?_⟩ (.tup upd_same (r.mono (same_new ga)))
  · by_cases e : b = a
    · subst e
      rw [upd_same] at q
      cases q
      exact upd_same
    · rw [upd_ne e] at q
      rw [upd_ne e]
      exact s b u q
  · by_cases e : b = a
    · exact .inr (by rw [e]; exact Nu.of ha)
    · rw [upd_ne e] at hb
      exact .inl hb
theorem Fin.lst {ds : List D} {vs : List V} (f : Fin c G H P K) (s : Same G H) (p : P (.fr (.lst ds))) (r : RepL c.K c.w G vs ds) : ∀ a, H a = none → K (.ref a) (upd H a (.lst vs)) := fun a ha =>
  f _ (.ref a) G _ p ⟨same_new ha, Same.refl _, s.trans (same_new ha), fun b hb => .inl hb⟩ ⟨a, _, rfl, ha, s.free ha, upd_same, _, rfl, r⟩
theorem Fin.dicK {ds : List (D × D)} {vs : List (Key × V)} (f : Fin c G H P K) (s : Same G H) (p : P (.fr (.dic false ds))) (r : RepK c.K c.w G vs ds) : ∀ a, H a = none → K (.ref a) (upd H a (.dK vs)) := fun a ha =>
  f _ (.ref a) G _ p ⟨same_new ha, Same.refl _, s.trans (same_new ha), fun b hb => .inl hb⟩ ⟨a, _, rfl, ha, s.free ha, upd_same, _, rfl, r⟩
theorem Fin.dicT {ds : List (D × D)} {vs : List (List Key × V)} (f : Fin c G H P K) (s : Same G H) (p : P (.fr (.dic true ds))) (r : RepT c.K c.w G vs ds) : ∀ a, H a = none → K (.ref a) (upd H a (.dT vs)) := fun a ha =>
  f _ (.ref a) G _ p ⟨same_new ha, Same.refl _, s.trans (same_new ha), fun b hb => .inl hb⟩ ⟨a, _, rfl, ha, s.free ha, upd_same, _, rfl, r⟩
end

/-! ### + - * // % ** -/
def opAdd : D → D → (RV → Prop) → Prop
  | .int i, .int j, Q => Q (.val (.int (i + j)))
  | .str x, .str y, Q => x.length + y.length ≤ sizeLine ∧ Q (.val (.str (x ++ y)))
  | .tup x, .tup y, Q => x.length + y.length ≤ sizeLine ∧ Q (.val (.tup (x ++ y)))
  | .lst x, .lst y, Q => x.length + y.length ≤ sizeLine ∧ Q (.fr (.lst (x ++ y)))
  | _, _, _ => False
def opSub : D → D → (RV → Prop) → Prop
  | .int i, .int j, Q => Q (.val (.int (i - j)))
  | _, _, _ => False
def mulOk (i j : Int) : Prop := CMul i j ∨ CMulW i j
def opMul : D → D → (RV → Prop) → Prop
  | .int i, .int j, Q => mulOk i j ∧ Q (.val (.int (i * j)))
  | _, _, _ => False
def opDiv : D → D → (RV → Prop) → Prop
  | .int i, .int j, Q => CDivW i j ∧ Q (.val (.int (i / j)))
  | _, _, _ => False
def opMod : D → D → (RV → Prop) → Prop
  | .int i, .int j, Q => 0 < j ∧ Q (.val (.int (i % j)))
  | _, _, _ => False
def opPow : D → D → (RV → Prop) → Prop
  | .int i, .int j, Q => CPow i j ∧ Q (.val (.int (i ^ j.toNat)))
  | _, _, _ => False
/-- two lists, any that are read -/
def rCatL (K : PySem.W.Frag) : R2 := fun x y H Q => ∃ l b xs zs, x = .ref l ∧ y = .ref b ∧ SqL K H l xs ∧ SqL K H b zs ∧ xs.length + zs.length ≤ sizeLine ∧ ∀ p, H p = none → Q (.ref p) (upd H p (.lst (xs ++ zs)))
theorem add_listP {M : Model} {A : Around} {E : Value → Shared → Prop} {s : Shared} {a b : Addr} {xs ys : Array Value} {Q : Value → Shared → Prop} (ha : PlainL s.heap a xs) (hb : PlainL s.heap b ys)
    (h : ∀ {n m : Nat} {d d' : Option Addr} {sl sl' : Array (Option Value)}, s.heap.get? a = some ⟨.type "list", d, .seq xs n, sl⟩ → s.heap.get? b = some ⟨.type "list", d', .seq ys m, sl'⟩ → wpAny M A (binaryOp .Add (.ref a) (.ref b)) Q E s) : wpAny M A (binaryOp .Add (.ref a) (.ref b)) Q E s := by
  obtain ⟨⟨c1, d1, t1, sl1⟩, n, ho, hc, hd, hs⟩ := ha
  obtain ⟨⟨c2, d2, t2, sl2⟩, m, ho', hc', hd', hs'⟩ := hb
  simp only at hc hs hc' hs'
  subst hc hs hc' hs'
  exact h ho ho'
theorem op_catL {X : Cx} : OpR X (binaryOp .Add) (rCatL X.K) := by
  intro pins s σ H x y v u Q I rx ry h
  obtain ⟨l, b, xs, zs, rfl, rfl, hH, hB, hz, q⟩ := h
  cases rx
  cases ry
  obtain ⟨its, r, hl, e⟩ := I.list hH
  obtain ⟨its2, r2, hl2, e2⟩ := I.list hB
  have z1 := r.length
  have z2 := r2.length
  refine add_listP hl hl2 fun ho ho' => ?_
  refine PySem.concat_meets ⟨_, ho, rfl⟩ ⟨_, ho', rfl⟩ PySem.noFill_list_add PySem.seq_list_add PySem.F.slot_list_add PySem.F.entry_list_add (PySem.F.args_list_add_2 _ _) (PyProof.Rows.list_addW l b its.toArray its2.toArray _ _ _ _ _ _ (by rw [List.size_toArray, List.size_toArray]; omega)) ⟨ho, ho', ?_⟩
  have ea : its.toArray ++ its2.toArray = (its ++ its2).toArray := by simp
  rw [ea]
  exact ⟨.ref _, _, I.lnew (t' := s.toks) (r.append r2) (by rw [List.length_append]; omega), rfl, q _ I.fresh⟩
section
variable {c : Cfg}
def rAll (K : PySem.W.Frag) : R2 := fun x y H Q => rI0 (fun i j => .int (i + j)) x y H Q ∨ (∃ i j, x = .str i ∧ y = .str j ∧ i.length + j.length ≤ sizeLine ∧ Q (.str (i ++ j)) H) ∨ rCatA K x y H Q ∨ rCatL K x y H Q
theorem add_s : OpS2 c (rAll c.K) opAdd := by
  intro G H x y da db P K s rx ry o f
  cases da <;> cases db <;> try exact o.elim
  · cases rx; cases ry
    exact .inl ⟨_, _, rfl, rfl, f.val s o (.int _)⟩
  · cases rx; cases ry
    exact .inr (.inl ⟨_, _, rfl, rfl, o.1, f.val s o.2 (.str _)⟩)
  · rename_i xs ys
    have hx : Rep c.K c.w G x (.tup xs) := rx
    have hy : Rep c.K c.w G y (.tup ys) := ry
    cases hx with
    | @tup a vs _ h1 r1 =>
    cases hy with
    | @tup b us _ h2 r2 =>
    refine .inr (.inr (.inl ⟨a, b, vs, us, rfl, rfl, SqT.of (s _ _ h1), SqT.of (s _ _ h2), by rw [r1.length, r2.length]; exact o.1, fun e => ?_, fun _ e => ?_, fun _ _ => f.tup s o.2 (r1.append r2)⟩))
    · subst e
      cases r1
      exact f.val s o.2 ry
    · subst e
      cases r2
      exact f.val s o.2 (by rw [List.append_nil]; exact rx)
  · obtain ⟨a, vs, rfl, h1, r1⟩ := rx
    obtain ⟨b, us, rfl, h2, r2⟩ := ry
    exact .inr (.inr (.inr ⟨a, b, vs, us, rfl, rfl, h1, h2, by rw [r1.length, r2.length]; exact o.1, f.lst s o.2 (r1.append r2)⟩))

theorem int2 {r : R2} {op : D → D → (RV → Prop) → Prop} {C : Int → Int → Prop} {g : Int → Int → D} {v : Int → Int → V} (hg : ∀ i j, Rep c.K c.w (fun _ => none) (v i j) (g i j)) (ho : ∀ da db P, op da db P → ∃ i j, da = .int i ∧ db = .int j ∧ C i j ∧ P (.val (g i j)))
    (hr : ∀ i j H Q, C i j → Q (v i j) H → r (.int i) (.int j) H Q) : OpS2 c r op := by
  intro G H x y da db P K s rx ry o f
  obtain ⟨i, j, rfl, rfl, hc, p⟩ := ho da db P o
  cases rx; cases ry
  exact hr i j H K hc (f.val s p ((hg i j).mono fun b o z => absurd (show (none : Option HO) = some o from z) (by simp)))
theorem sub_s : OpS2 c (rI0 fun i j => .int (i - j)) opSub := int2 (C := fun _ _ => True) (fun i j => .int _) (fun da db P o => by
    cases da <;> cases db <;> (try exact False.elim o) <;> exact ⟨_, _, rfl, rfl, trivial, o⟩) fun i j H Q _ q => ⟨_, _, rfl, rfl, q⟩
def rMul : R2 := fun x y H Q => rI CMul (fun i j => .int (i * j)) x y H Q ∨ rI CMulW (fun i j => .int (i * j)) x y H Q
theorem mul_s : OpS2 c rMul opMul := int2 (C := mulOk) (fun i j => .int _) (fun da db P o => by
    cases da <;> cases db <;> (try exact False.elim o) <;> exact ⟨_, _, rfl, rfl, o⟩) fun i j H Q h q => h.elim (fun h => .inl ⟨_, _, rfl, rfl, h, q⟩) fun h => .inr ⟨_, _, rfl, rfl, h, q⟩
theorem div_s : OpS2 c (rI CDivW fun i j => .int (i / j)) opDiv := int2 (C := CDivW) (fun i j => .int _) (fun da db P o => by
    cases da <;> cases db <;> (try exact False.elim o) <;> exact ⟨_, _, rfl, rfl, o⟩) fun i j H Q h q => ⟨_, _, rfl, rfl, h, q⟩
theorem mod_s : OpS2 c (rI (fun _ j => 0 < j) fun i j => .int (i % j)) opMod := int2 (C := fun _ j => 0 < j) (fun i j => .int _) (fun da db P o => by
    cases da <;> cases db <;> (try exact False.elim o) <;> exact ⟨_, _, rfl, rfl, o⟩) fun i j H Q h q => ⟨_, _, rfl, rfl, h, q⟩
variable {pos : Pos} {a b : Expr} {ta tb : ET}
theorem ve_add (ha : VE c a ta) (hb : VE c b tb) : VE c (.BinOp a .Add b pos) (eOp2 opAdd ta tb) := ve_op2 (fun X g => by
  have h : OpR X (binaryOp .Add) (rAll c.K) := by
    rw [← g.K]
    exact op_add.or (op_add_str.or (op_catA.or op_catL))
  exact pe_op h pe_tu pe_tu) add_s ha hb
theorem ve_sub (ha : VE c a ta) (hb : VE c b tb) : VE c (.BinOp a .Sub b pos) (eOp2 opSub ta tb) := ve_op2 (fun X g => pe_op op_sub pe_tu pe_tu) sub_s ha hb
theorem ve_mul (ha : VE c a ta) (hb : VE c b tb) : VE c (.BinOp a .Mult b pos) (eOp2 opMul ta tb) := ve_op2 (fun X g => pe_op (op_mul.or op_mulW) pe_tu pe_tu) mul_s ha hb
theorem ve_div (ha : VE c a ta) (hb : VE c b tb) : VE c (.BinOp a .FloorDiv b pos) (eOp2 opDiv ta tb) := ve_op2 (fun X g => pe_op op_fdivW pe_tu pe_tu) div_s ha hb
theorem ve_mod (ha : VE c a ta) (hb : VE c b tb) : VE c (.BinOp a .Mod b pos) (eOp2 opMod ta tb) := ve_op2 (fun X g => pe_op op_mod pe_tu pe_tu) mod_s ha hb
def opNeg : D → (RV → Prop) → Prop
  | .int i, Q => Q (.val (.int (-i)))
  | _, _ => False
end

/-! ### == != -/
mutual
def D.toPy : D → PyData
  | .non => .none
  | .bl b => .bool b
  | .int i => .int i
  | .str x => .str x
  | .ty _ => .none
  | .tup xs => .tuple (D.toPyL xs)
  | .lst xs => .list (D.toPyL xs)
  | .dic _ _ => .none
  | .ktup xs => .tuple (D.toPyL xs)
  | .kdic _ => .none
  | .exc _ _ => .none
  | .dix _ => .none
  | .ins _ _ => .none
def D.toPyL : List D → List PyData
  | [] => []
  | d :: ds => D.toPy d :: D.toPyL ds
end
mutual
/-- data that is compared part by part: no truths, no types, no dicts; at most n deep -/
def D.okD : Nat → D → Bool
  | _, .non => true
  | _, .int _ => true
  | _, .str x => PyData.strOk x
  | 0, _ => false
  | n + 1, .tup xs => D.okL n xs
  | n + 1, .lst xs => D.okL n xs
  | _, _ => false
  termination_by structural _ d => d
def D.okL : Nat → List D → Bool
  | _, [] => true
  | n, d :: ds => D.okD n d && D.okL n ds
  termination_by structural _ d => d
end
mutual
theorem D.ok_lay : ∀ (n : Nat) (d : D), D.okD n d = true → d.toPy.canLay0 = true ∧ d.toPy.depth ≤ n
  | n, .non, _ => by simp [D.toPy, PyData.canLay0, PyData.depth]
  | n, .int _, _ => by simp [D.toPy, PyData.canLay0, PyData.depth]
  | n, .str x, h => by
    simp [D.okD] at h
    simp [D.toPy, PyData.canLay0, PyData.depth, h]
  | 0, .tup xs, h => by simp [D.okD] at h
  | 0, .lst xs, h => by simp [D.okD] at h
  | n, .bl _, h => by cases n <;> simp [D.okD] at h
  | n, .ty _, h => by cases n <;> simp [D.okD] at h
  | n, .dic _ _, h => by cases n <;> simp [D.okD] at h
  | n, .ktup _, h => by cases n <;> simp [D.okD] at h
  | n, .kdic _, h => by cases n <;> simp [D.okD] at h
  | n, .exc _ _, h => by cases n <;> simp [D.okD] at h
  | n, .dix _, h => by cases n <;> simp [D.okD] at h
  | n, .ins _ _, h => by cases n <;> simp [D.okD] at h
  | n + 1, .tup xs, h => by
    simp only [D.okD] at h
    have := D.okL_lay n xs h
    simp only [D.toPy, PyData.canLay0, PyData.depth]
    exact ⟨this.1, by omega⟩
  | n + 1, .lst xs, h => by
    simp only [D.okD] at h
    have := D.okL_lay n xs h
    simp only [D.toPy, PyData.canLay0, PyData.depth]
    exact ⟨this.1, by omega⟩
theorem D.okL_lay : ∀ (n : Nat) (ds : List D), D.okL n ds = true → PyData.canLayAll0 (D.toPyL ds) = true ∧ PyData.depthAll (D.toPyL ds) ≤ n
  | n, [], _ => by simp [D.toPyL, PyData.canLayAll0, PyData.depthAll]
  | n, d :: ds, h => by
    simp only [D.okL, Bool.and_eq_true] at h
    have h1 := D.ok_lay n d h.1
    have h2 := D.okL_lay n ds h.2
    simp only [D.toPyL, PyData.canLayAll0, PyData.depthAll, Bool.and_eq_true]
    exact ⟨⟨h1.1, h2.1⟩, by omega⟩
end
theorem D.shaped {d : D} (h : D.okD 60 d = true) : SeqAt.shaped d.toPy = true := by
  have := D.ok_lay 60 d h
  unfold SeqAt.shaped
  rw [Bool.and_eq_true]
  exact ⟨this.1, decide_eq_true (by omega)⟩
mutual
theorem D.eqv_iff : ∀ (n m : Nat) (a b : D), D.okD n a = true → D.okD m b = true → (PyData.eqv a.toPy b.toPy = true ↔ a = b)
  | n, m, a, b, ha, hb => by
    cases a <;> cases b <;> (try (cases n <;> simp [D.okD] at ha)) <;> (try (cases m <;> simp [D.okD] at hb)) <;> simp [D.toPy, PyData.eqv]
    all_goals first
      | exact D.eqvL_iff _ _ _ _ ha hb
      | skip
theorem D.eqvL_iff : ∀ (n m : Nat) (a b : List D), D.okL n a = true → D.okL m b = true → (PyData.eqvAll (D.toPyL a) (D.toPyL b) = true ↔ a = b)
  | n, m, a, b, ha, hb => by
    cases a <;> cases b <;> simp [D.toPyL, PyData.eqvAll]
    rename_i a as b bs
    simp only [D.okL, Bool.and_eq_true] at ha hb
    rw [D.eqv_iff n m a b ha.1 hb.1, D.eqvL_iff n m as bs ha.2 hb.2]
end
mutual
theorem Rep.dp {K : PySem.W.Frag} {w : World} {G : Hp} : ∀ {n : Nat} {v : V} {d : D}, Rep K w G v d → D.okD n d = true → Dp K G v d.toPy
  | _, _, _, .non, _ => by simp only [D.toPy]; exact .non
  | n, _, _, .bl b, h => by cases n <;> simp [D.okD] at h
  | _, _, _, .int i, _ => by simp only [D.toPy]; exact .int i
  | _, _, _, .str x, _ => by simp only [D.toPy]; exact .str x
  | n, _, _, .ty b, h => by cases n <;> simp [D.okD] at h
  | 0, _, _, .tup _ _, h => by simp [D.okD] at h
  | 0, _, _, .lst _ _, h => by simp [D.okD] at h
  | n, _, _, .ktup _ _, h => by cases n <;> simp [D.okD] at h
  | n + 1, _, _, .tup q r, h => by simp only [D.toPy]; exact .tup (SqT.of q) (RepL.dp r (by simpa only [D.okD] using h))
  | n + 1, _, _, .lst q r, h => by simp only [D.toPy]; exact .lst (.inl (.inl q)) (RepL.dp r (by simpa only [D.okD] using h))
  | n, _, _, .dicK _ _, h => by cases n <;> simp [D.okD] at h
  | n, _, _, .dicT _ _, h => by cases n <;> simp [D.okD] at h
  | n, _, _, .dicC _, h => by cases n <;> simp [D.okD] at h
  | n, _, _, .exc _ _ _ _, h => by cases n <;> simp [D.okD] at h
  | n, _, _, .dix _ _, h => by cases n <;> simp [D.okD] at h
  | n, _, _, .ins _ _ _ _, h => by cases n <;> simp [D.okD] at h
theorem RepL.dp {K : PySem.W.Frag} {w : World} {G : Hp} : ∀ {n : Nat} {v : List V} {d : List D}, RepL K w G v d → D.okL n d = true → DpAll K G v (D.toPyL d)
  | _, _, _, .nil, _ => by simp only [D.toPyL]; exact .nil
  | n, _, _, .cons q r, h => by
    simp only [D.okL, Bool.and_eq_true] at h
    simp only [D.toPyL]
    exact .cons (Rep.dp q h.1) (RepL.dp r h.2)
end
/-- a written tuple is compared as any tuple -/
def D.un : D → D
  | .ktup xs => .tup xs
  | d => d
theorem Rep.dpu {K : PySem.W.Frag} {w : World} {G : Hp} {n : Nat} {v : V} {d : D} (h : Rep K w G v d) (o : D.okD n d.un = true) : Dp K G v d.un.toPy := by
  cases d with
  | ktup xs =>
    cases h with
    | ktup q r =>
      cases n with
      | zero => simp [D.un, D.okD] at o
      | succ n =>
        simp only [D.un, D.toPy]
        exact .tup (.inr q) (RepL.dp r (by simpa only [D.un, D.okD] using o))
  | _ => exact Rep.dp h o
theorem RD.dp {K : PySem.W.Frag} {w : World} {G H : Hp} {n : Nat} {v : V} {d : D} (s : Same G H) (h : RD K w H G v d) (o : D.okD n d = true) : Dp K H v d.toPy := by
  cases d with
  | lst ds =>
    obtain ⟨a, vs, rfl, q, r⟩ := h
    cases n with
    | zero => simp [D.okD] at o
    | succ n =>
      simp only [D.toPy]
      exact .lst q (RepL.dp (r.mono s) (by simpa only [D.okD] using o))
  | _ => exact (RD.rep s h rfl).dp o
theorem RD.dpu {K : PySem.W.Frag} {w : World} {G H : Hp} {n : Nat} {v : V} {d : D} (s : Same G H) (h : RD K w H G v d) (o : D.okD n d.un = true) : Dp K H v d.un.toPy := by
  cases d with
  | lst ds => exact RD.dp s h o
  | _ => exact (RD.rep s h rfl).dpu o
def opEq : D → D → (RV → Prop) → Prop
  | .bl a, .bl b, Q => Q (.val (.bl (a == b)))
  | .str a, .str b, Q => Q (.val (.bl (decide (a = b))))
  | a, b, Q => D.okD 60 a.un = true ∧ D.okD 60 b.un = true ∧ Q (.val (.bl (decide (a.un = b.un))))
def opNe : D → D → (RV → Prop) → Prop
  | .bl a, .bl b, Q => Q (.val (.bl (!(a == b))))
  | .str a, .str b, Q => Q (.val (.bl (!decide (a = b))))
  | a, b, Q => D.okD 60 a.un = true ∧ D.okD 60 b.un = true ∧ Q (.val (.bl (!decide (a.un = b.un))))
section
variable {c : Cfg} {pos : Pos} {a b : Expr} {ta tb : ET}
theorem eqv_dec {a b : D} (ha : D.okD 60 a = true) (hb : D.okD 60 b = true) : PyData.eqv a.toPy b.toPy = decide (a = b) := by
  have h := D.eqv_iff 60 60 a b ha hb
  by_cases e : a = b
  · rw [decide_eq_true e]
    exact h.mpr e
  · rw [decide_eq_false e]
    cases q : PyData.eqv a.toPy b.toPy with
    | false => rfl
    | true => exact absurd (h.mp q) e
theorem dec_v {α : Type} [DecidableEq α] {f : α → V} (hf : ∀ a b, f a = f b → a = b) (a b : α) : decide (f a = f b) = decide (a = b) := by
  by_cases e : a = b
  · rw [decide_eq_true e, decide_eq_true (by rw [e])]
  · rw [decide_eq_false e, decide_eq_false fun q => e (hf _ _ q)]
theorem eq_s : OpS2 c (fun x y H Q => rEq x y H Q ∨ rEqD c.K x y H Q) opEq := by
  intro G H x y da db P K s rx ry o f
  unfold opEq at o
  split at o
  · cases rx; cases ry
    refine .inl ⟨rfl, f.val s ?_ (.bl _)⟩
    rw [dec_v (fun _ _ h => V.bl.inj h)]
    have e : ∀ a b : Bool, decide (a = b) = (a == b) := by decide
    rw [e]
    exact o
  · cases rx; cases ry
    refine .inl ⟨rfl, f.val s ?_ (.bl _)⟩
    rw [dec_v (fun _ _ h => V.str.inj h)]
    exact o
  · obtain ⟨h1, h2, p⟩ := o
    refine .inr ⟨_, _, RD.dpu s rx h1, RD.dpu s ry h2, D.shaped h1, D.shaped h2, f.val s ?_ (.bl _)⟩
    rw [eqv_dec h1 h2]
    exact p
theorem ne_s : OpS2 c (fun x y H Q => rNe x y H Q ∨ rNeD c.K x y H Q) opNe := by
  intro G H x y da db P K s rx ry o f
  unfold opNe at o
  split at o
  · cases rx; cases ry
    refine .inl ⟨rfl, f.val s ?_ (.bl _)⟩
    rw [dec_v (fun _ _ h => V.bl.inj h)]
    have e : ∀ a b : Bool, decide (a = b) = (a == b) := by decide
    rw [e]
    exact o
  · cases rx; cases ry
    refine .inl ⟨rfl, f.val s ?_ (.bl _)⟩
    rw [dec_v (fun _ _ h => V.str.inj h)]
    exact o
  · obtain ⟨h1, h2, p⟩ := o
    refine .inr ⟨_, _, RD.dpu s rx h1, RD.dpu s ry h2, D.shaped h1, D.shaped h2, f.val s ?_ (.bl _)⟩
    rw [eqv_dec h1 h2]
    exact p
theorem ve_eq (ha : VE c a ta) (hb : VE c b tb) : VE c (.Compare a [.Eq] [b] pos) (eOp2 opEq ta tb) := ve_op2 (fun X g => pe_cmpR (op_eq.or (by rw [← g.K]; exact op_eqD g.un)) pe_tu pe_tu (nomark _)) eq_s ha hb
/-- a value as a test -/
def tV (t : ET) : TTt := fun env Q Xq => t env (fun r e1 => ∃ b, r = .val (.bl b) ∧ Q b e1) Xq
theorem vt_pt {e : Expr} {t : ET} (h : VE c e t) (hp : ∀ (X : Cx) (te : TE), Good c X → PE X e te → PT X e (tB te)) : VT c e (tV t) := by
  constructor
  intro X g G B H σ env Q Xq E q tk
  refine TUt.of (hp X _ g (pe_tu (e := e))) ?_
  refine (h.run X g G B H σ env _ Xq E q tk).imp fun x H1 ⟨ra, e1, G1, q1, E1, x1, k1, r1⟩ => ?_
  obtain ⟨b, rfl, q⟩ := q1
  cases (show Rep c.K c.w G1 x (.bl b) from r1)
  exact ⟨b, rfl, e1, G1, q, E1, x1, k1⟩
theorem vt_val {e : Expr} {t : ET} (h : VE c e t) (he : ∀ (env : PySem.Env) (whole : Sem Value), isTrue e env whole = (do let v ← whole; standAt e.pos; holding [v] (truthy v)) := by intros; rfl) : VT c e (tV t) :=
  vt_pt h fun X te g p => pt_val p (he X.env)
theorem vt_op2 {op : CmpOp} {r : R2} {o : D → D → (RV → Prop) → Prop} (ho : ∀ X, Good c X → OpR X (compareOp op) r) (hs : OpS2 c r o) (hm : behindInMarks op b = false) (ha : VE c a ta) (hb : VE c b tb) : VT c (.Compare a [op] [b] pos) (tV (eOp2 o ta tb)) := by
  constructor
  intro X g G B H σ env Q Xq E q tk
  refine TUt.of (pt_cmpR (ho X g) (pe_tu (e := a)) (pe_tu (e := b)) hm) ?_
  refine run2 (Q := fun r e1 => ∃ b, r = .val (.bl b) ∧ Q b e1) hs ha hb g E q tk fun v H' z => ?_
  obtain ⟨rv, e1, G1, ⟨k, rfl, q⟩, E1, x1, k1, r1⟩ := z
  cases (show Rep c.K c.w G1 v (.bl k) from r1)
  exact ⟨k, rfl, e1, G1, q, E1, x1, k1⟩
theorem vt_eq (ha : VE c a ta) (hb : VE c b tb) : VT c (.Compare a [.Eq] [b] pos) (tV (eOp2 opEq ta tb)) := vt_op2 (fun X g => op_eq.or (by rw [← g.K]; exact op_eqD g.un)) eq_s (nomark _) ha hb
theorem vt_ne (ha : VE c a ta) (hb : VE c b tb) : VT c (.Compare a [.NotEq] [b] pos) (tV (eOp2 opNe ta tb)) := vt_op2 (fun X g => op_ne.or (by rw [← g.K]; exact op_neD g.un)) ne_s (nomark _) ha hb
end
end VS

namespace VS
open PySem PySem.Spec L2

/-! ### orders of numbers and texts -/
def opCmp (fi : Int → Int → Bool) (fs : Str → Str → Bool) : D → D → (RV → Prop) → Prop
  | .int i, .int j, Q => Q (.val (.bl (fi i j)))
  | .str i, .str j, Q => Q (.val (.bl (fs i j)))
  | _, _, _ => False
section
variable {c : Cfg} {pos : Pos} {a b : Expr} {ta tb : ET}
theorem cmp_s {fi : Int → Int → Bool} {fs : Str → Str → Bool} : OpS2 c (fun x y H Q => rI0 (fun i j => .bl (fi i j)) x y H Q ∨ (fun x y H Q => ∃ i j, x = .str i ∧ y = .str j ∧ Q (.bl (fs i j)) H) x y H Q) (opCmp fi fs) := by
  intro G H x y da db P K s rx ry o f
  cases da <;> cases db <;> try exact False.elim o
  · cases rx; cases ry
    exact .inl ⟨_, _, rfl, rfl, f.val s o (.bl _)⟩
  · cases rx; cases ry
    exact .inr ⟨_, _, rfl, rfl, f.val s o (.bl _)⟩
abbrev opLt := opCmp (fun i j => decide (i < j)) fun i j => decide (i.cps.toList < j.cps.toList)
abbrev opGt := opCmp (fun i j => decide (j < i)) fun i j => decide (j.cps.toList < i.cps.toList)
abbrev opLe := opCmp (fun i j => decide (i ≤ j)) fun i j => !decide (j.cps.toList < i.cps.toList)
abbrev opGe := opCmp (fun i j => decide (j ≤ i)) fun i j => !decide (i.cps.toList < j.cps.toList)
theorem vt_gt (ha : VE c a ta) (hb : VE c b tb) : VT c (.Compare a [.Gt] [b] pos) (tV (eOp2 opGt ta tb)) := vt_op2 (fun X g => op_gt.or op_gt_str) cmp_s (nomark _) ha hb
theorem vt_le (ha : VE c a ta) (hb : VE c b tb) : VT c (.Compare a [.LtE] [b] pos) (tV (eOp2 opLe ta tb)) := vt_op2 (fun X g => op_le.or op_le_str) cmp_s (nomark _) ha hb
theorem ve_gt (ha : VE c a ta) (hb : VE c b tb) : VE c (.Compare a [.Gt] [b] pos) (eOp2 opGt ta tb) := ve_op2 (fun X g => pe_cmpR (op_gt.or op_gt_str) pe_tu pe_tu (nomark _)) cmp_s ha hb
end

/-! ### dicts by keys -/
def isK : D → Bool
  | .int _ => true
  | .str _ => true
  | _ => false
def isKT : D → Bool
  | .tup xs => xs.all isK
  | _ => false
theorem isK_key : ∀ {d : D}, isK d = true → ∃ k, d = keyD k
  | .int i, _ => ⟨.inl i, rfl⟩
  | .str i, _ => ⟨.inr i, rfl⟩
theorem isK_keys : ∀ {ds : List D}, ds.all isK = true → ∃ ks : List Key, ds = ks.map keyD
  | [], _ => ⟨[], rfl⟩
  | d :: ds, h => by
    rw [List.all_cons, Bool.and_eq_true] at h
    obtain ⟨k, rfl⟩ := isK_key h.1
    obtain ⟨ks, rfl⟩ := isK_keys h.2
    exact ⟨k :: ks, rfl⟩
theorem isKT_keys {d : D} (h : isKT d = true) : ∃ ks, d = keysD ks := by
  cases d <;> try (simp [isKT] at h)
  rename_i xs
  obtain ⟨ks, e⟩ := isK_keys (ds := xs) (by simpa [isKT] using h)
  exact ⟨ks, by rw [e]; rfl⟩
def dget (kvs : List (D × D)) (k : D) : Option D := (kvs.find? fun p => decide (p.1 = k)).map (·.2)
def dput (kvs : List (D × D)) (k v : D) : List (D × D) := if (kvs.any fun p => decide (p.1 = k)) = true then kvs.map fun p => if p.1 = k then (p.1, v) else p else kvs ++ [(k, v)]
/-- the key is of the dict's kind -/
def keyOk (t : Bool) (k : D) : Bool := if t then isKT k else isK k
def RelD (K : PySem.W.Frag) (w : World) (G : Hp) : Option V → Option D → Prop
  | some v, some d => Rep K w G v d
  | none, none => True
  | _, _ => False
section
variable {K : PySem.W.Frag} {w : World} {G H : Hp}
theorem dget_cons (p : D × D) (r : List (D × D)) (k : D) : dget (p :: r) k = if p.1 = k then some p.2 else dget r k := by
  unfold dget
  rw [List.find?_cons]
  by_cases e : p.1 = k
  · simp [e]
  · simp [e]
theorem RepK.val : ∀ {vs : List (Key × V)} {ds : List (D × D)}, RepK K w G vs ds → ∀ k, RelD K w G (valV vs k) (dget ds (keyD k))
  | _, _, .nil, k => trivial
  | _, _, .cons (k := j) h r, k => by
    rw [dget_cons]
    by_cases e : j = k
    · subst e
      rw [valV_pos rfl, if_pos rfl]
      exact h
    · rw [valV_neg e, if_neg fun q => e (keyD_inj q)]
      exact RepK.val r k
theorem RepT.val : ∀ {vs : List (List Key × V)} {ds : List (D × D)}, RepT K w G vs ds → ∀ k, RelD K w G (valV vs k) (dget ds (keysD k))
  | _, _, .nil, k => trivial
  | _, _, .cons (k := j) h r, k => by
    rw [dget_cons]
    by_cases e : j = k
    · subst e
      rw [valV_pos rfl, if_pos rfl]
      exact h
    · rw [valV_neg e, if_neg fun q => e (keysD_inj q)]
      exact RepT.val r k
theorem RepC.val {a : Addr} : ∀ {ds : List (D × D)}, RepC K w G a ds → ∀ {k d : D}, dget ds k = some d → ∃ x v, k = .str x ∧ KDct K w a x v ∧ Rep K w G v d
  | _, .nil, k, d, e => by cases e
  | _, .cons (x := x) (v := v) h q r, k, d, e => by
    rw [dget_cons] at e
    by_cases ek : D.str x = k
    · rw [if_pos ek] at e
      cases e
      exact ⟨x, v, ek.symm, h, q⟩
    · rw [if_neg ek] at e
      exact RepC.val r e
theorem RelD.some_of {o : Option V} {d : D} (h : RelD K w G o (some d)) : ∃ v, o = some v ∧ Rep K w G v d := by
  cases o with
  | none => exact h.elim
  | some v => exact ⟨v, rfl, h⟩
theorem RelD.isSome {o : Option V} {d : Option D} (h : RelD K w G o d) : o.isSome = d.isSome := by
  cases o <;> cases d <;> first | rfl | exact h.elim
theorem RepK.any {vs : List (Key × V)} {ds : List (D × D)} (h : RepK K w G vs ds) (k : Key) : (vs.any fun p => decide (p.1 = k)) = ds.any fun p => decide (p.1 = keyD k) := by
  induction vs generalizing ds with
  | nil => cases h; rfl
  | cons p vs ih =>
    cases h with
    | cons q r =>
      rw [List.any_cons, List.any_cons, ih r]
      congr 1
      rename_i j _ _ _
      by_cases e : j = k
      · subst e; simp
      · rw [decide_eq_false (show ¬ (j, _).1 = k from e), decide_eq_false (show ¬ (keyD j, _).1 = keyD k from fun z => e (keyD_inj z))]
theorem RepT.any {vs : List (List Key × V)} {ds : List (D × D)} (h : RepT K w G vs ds) (k : List Key) : (vs.any fun p => decide (p.1 = k)) = ds.any fun p => decide (p.1 = keysD k) := by
  induction vs generalizing ds with
  | nil => cases h; rfl
  | cons p vs ih =>
    cases h with
    | cons q r =>
      rw [List.any_cons, List.any_cons, ih r]
      congr 1
      rename_i j _ _ _
      by_cases e : j = k
      · subst e; simp
      · rw [decide_eq_false (show ¬ (j, _).1 = k from e), decide_eq_false (show ¬ (keysD j, _).1 = keysD k from fun z => e (keysD_inj z))]
theorem RepK.snoc {vs : List (Key × V)} {ds : List (D × D)} (h : RepK K w G vs ds) {k : Key} {v : V} {d : D} (r : Rep K w G v d) : RepK K w G (vs ++ [(k, v)]) (ds ++ [(keyD k, d)]) := by
  induction vs generalizing ds with
  | nil => cases h; exact .cons r .nil
  | cons p vs ih =>
    cases h with
    | cons q t => exact .cons q (ih t)
theorem RepT.snoc {vs : List (List Key × V)} {ds : List (D × D)} (h : RepT K w G vs ds) {k : List Key} {v : V} {d : D} (r : Rep K w G v d) : RepT K w G (vs ++ [(k, v)]) (ds ++ [(keysD k, d)]) := by
  induction vs generalizing ds with
  | nil => cases h; exact .cons r .nil
  | cons p vs ih =>
    cases h with
    | cons q t => exact .cons q (ih t)
theorem RepK.repl {vs : List (Key × V)} {ds : List (D × D)} (h : RepK K w G vs ds) {k : Key} {v : V} {d : D} (r : Rep K w G v d) : RepK K w G (vs.map fun p => if p.1 = k then (p.1, v) else p) (ds.map fun p => if p.1 = keyD k then (p.1, d) else p) := by
  induction vs generalizing ds with
  | nil => cases h; exact .nil
  | cons p vs ih =>
    cases h with
    | cons q t =>
      rename_i j u _ _
      rw [List.map_cons, List.map_cons]
      by_cases e : j = k
      · subst e
        rw [if_pos rfl, if_pos rfl]
        exact .cons r (ih t)
      · rw [if_neg (show ¬ (j, _).1 = k from e), if_neg (show ¬ (keyD j, _).1 = keyD k from fun z => e (keyD_inj z))]
        exact .cons q (ih t)
theorem RepT.repl {vs : List (List Key × V)} {ds : List (D × D)} (h : RepT K w G vs ds) {k : List Key} {v : V} {d : D} (r : Rep K w G v d) : RepT K w G (vs.map fun p => if p.1 = k then (p.1, v) else p) (ds.map fun p => if p.1 = keysD k then (p.1, d) else p) := by
  induction vs generalizing ds with
  | nil => cases h; exact .nil
  | cons p vs ih =>
    cases h with
    | cons q t =>
      rename_i j u _ _
      rw [List.map_cons, List.map_cons]
      by_cases e : j = k
      · subst e
        rw [if_pos rfl, if_pos rfl]
        exact .cons r (ih t)
      · rw [if_neg (show ¬ (j, _).1 = k from e), if_neg (show ¬ (keysD j, _).1 = keysD k from fun z => e (keysD_inj z))]
        exact .cons q (ih t)
theorem RepK.put {vs : List (Key × V)} {ds : List (D × D)} (h : RepK K w G vs ds) {k : Key} {v : V} {d : D} (r : Rep K w G v d) : RepK K w G (putK vs k v) (dput ds (keyD k) d) := by
  unfold putK dput
  rw [← h.any k]
  split
  · exact h.repl r
  · exact h.snoc r
theorem RepT.put {vs : List (List Key × V)} {ds : List (D × D)} (h : RepT K w G vs ds) {k : List Key} {v : V} {d : D} (r : Rep K w G v d) : RepT K w G (putK vs k v) (dput ds (keysD k) d) := by
  unfold putK dput
  rw [← h.any k]
  split
  · exact h.repl r
  · exact h.snoc r
theorem RepK.length {vs : List (Key × V)} {ds : List (D × D)} (h : RepK K w G vs ds) : vs.length = ds.length := by
  induction vs generalizing ds with
  | nil => cases h; rfl
  | cons p vs ih => cases h with | cons q t => rw [List.length_cons, List.length_cons, ih t]
theorem RepT.length {vs : List (List Key × V)} {ds : List (D × D)} (h : RepT K w G vs ds) : vs.length = ds.length := by
  induction vs generalizing ds with
  | nil => cases h; rfl
  | cons p vs ih => cases h with | cons q t => rw [List.length_cons, List.length_cons, ih t]
/-- the values of a key tuple -/
theorem RepL.keys : ∀ {vs : List V} {ks : List Key}, RepL K w G vs (ks.map keyD) → vs = ks.map kV
  | _, [], h => by cases h; rfl
  | _, k :: ks, h => by
    cases h with
    | cons q r =>
      rw [RepL.keys r, List.map_cons]
      cases k with
      | inl i => cases q; rfl
      | inr i => cases q; rfl
theorem Rep.key {v : V} {k : Key} (h : Rep K w G v (keyD k)) : v = kV k := by
  cases k with
  | inl i => cases h; rfl
  | inr i => cases h; rfl
theorem Rep.keys {v : V} {k : List Key} (h : Rep K w G v (keysD k)) : ∃ b, v = .ref b ∧ G b = some (.tup (k.map kV)) := by
  unfold keysD at h
  cases h with
  | @tup a vs _ q r =>
    rw [RepL.keys r] at q
    exact ⟨a, rfl, q⟩
/-- a[k], k in a -/
theorem RD.get {v y : V} {t : Bool} {ds : List (D × D)} {k : D} (s : Same G H) (h : RD K w H G v (.dic t ds)) (hk : keyOk t k = true) (r : Rep K w G y k) : ∃ a o, v = .ref a ∧ DGet H a y o ∧ RelD K w G o (dget ds k) := by
  cases t with
  | false =>
    obtain ⟨κ, rfl⟩ := isK_key (d := k) hk
    obtain ⟨a, kvs, rfl, q, rr⟩ := h
    exact ⟨a, _, rfl, .inl ⟨kvs, κ, q, Rep.key r, rfl⟩, rr.val κ⟩
  | true =>
    obtain ⟨κ, rfl⟩ := isKT_keys (d := k) hk
    obtain ⟨a, kvs, rfl, q, rr⟩ := h
    obtain ⟨b, rfl, hb⟩ := Rep.keys r
    exact ⟨a, _, rfl, .inr ⟨kvs, κ, b, q, rfl, s _ _ hb, rfl⟩, rr.val κ⟩
theorem keyOk_rep {t : Bool} {k : D} {v : V} (hk : keyOk t k = true) (h : RD K w H G v k) : Rep K w G v k := by
  cases t with
  | false =>
    obtain ⟨κ, rfl⟩ := isK_key (d := k) hk
    cases κ <;> exact h
  | true =>
    obtain ⟨κ, rfl⟩ := isKT_keys (d := k) hk
    exact h
end

/-! ### subscripts -/
def opIdx : D → D → (RV → Prop) → Prop
  | .lst xs, .int i, Q => ∃ d, atI xs i = some d ∧ Q (.val d)
  | .tup xs, .int i, Q => ∃ d, atI xs i = some d ∧ Q (.val d)
  | .ktup xs, .int i, Q => ∃ d, atI xs i = some d ∧ Q (.val d)
  | .str z, .int i, Q => z.length ≤ sizeLine ∧ ∃ c, atI z.cps.toList i = some c ∧ Q (.val (.str ⟨#[c]⟩))
  | .dic t kvs, k, Q => keyOk t k = true ∧ ∃ d, dget kvs k = some d ∧ Q (.val d)
  | .kdic kvs, k, Q => ∃ d, dget kvs k = some d ∧ Q (.val d)
  | _, _, _ => False
def rDGet : R2 := fun x y H Q => ∃ a v, x = .ref a ∧ DGet H a y (some v) ∧ Q v H
theorem ix_dget {X : Cx} (hu : X.A.units + 1 < cLine) : IxR X rDGet := by
  intro value slice pins s σ H x y v u Q I rx ry h hs
  obtain ⟨a, z, rfl, g, q⟩ := h
  obtain rfl : v = Value.ref a := rx
  exact PyProof.Rows.tail_any (dict_typeIs I g) PySem.F.slot_dict_getitem.lookup (d_getItem hu I g ry fun w' s3 I3 rw' => ⟨z, H, I3, rw', q⟩) hs
def rIdx (K : PySem.W.Frag) (w : World) : R2 := fun x y H Q => rIx K x y H Q ∨ rIxD K w x y H Q ∨ rDGet x y H Q
theorem RepL.atI {K : PySem.W.Frag} {w : World} {G : Hp} {vs : List V} {ds : List D} (r : RepL K w G vs ds) {i : Int} {d : D} (e : L2.atI ds i = some d) : ∃ v, L2.atI vs i = some v ∧ Rep K w G v d := by
  unfold L2.atI at e ⊢
  rw [r.length]
  cases q : ixN ds.length i with
  | none => rw [q] at e; cases e
  | some j =>
    rw [q] at e
    exact r.get (i := j) e
section
variable {c : Cfg} {pos : Pos} {a b : Expr} {ta tb : ET}
theorem idx_s : OpS2 c (rIdx c.K c.w) opIdx := by
  intro G H x y da db P K s rx ry o f
  unfold opIdx at o
  split at o
  · obtain ⟨d, e, p⟩ := o
    obtain ⟨p', vs, rfl, q, r⟩ := rx
    cases ry
    obtain ⟨v, e1, r1⟩ := r.atI e
    exact .inl (.inl ⟨_, _, _, v, rfl, rfl, q, e1, f.val s p r1⟩)
  · obtain ⟨d, e, p⟩ := o
    cases (show Rep c.K c.w G x _ from rx) with
    | tup q r =>
    cases ry
    obtain ⟨v, e1, r1⟩ := r.atI e
    exact .inl (.inr (.inl ⟨_, _, _, v, rfl, rfl, SqT.of (s _ _ q), e1, f.val s p r1⟩))
  · obtain ⟨d, e, p⟩ := o
    cases (show Rep c.K c.w G x _ from rx) with
    | ktup q r =>
    cases ry
    obtain ⟨v, e1, r1⟩ := r.atI e
    exact .inl (.inr (.inl ⟨_, _, _, v, rfl, rfl, .inr q, e1, f.val s p r1⟩))
  · obtain ⟨hz, ch, e, p⟩ := o
    cases rx
    cases ry
    exact .inl (.inr (.inr ⟨_, _, _, rfl, rfl, hz, e, f.val s p (.str _)⟩))
  · obtain ⟨hk, d, e, p⟩ := o
    obtain ⟨a, ov, rfl, g, rel⟩ := RD.get s rx hk (keyOk_rep hk ry)
    rw [e] at rel
    obtain ⟨v, rfl, rv⟩ := rel.some_of
    exact .inr (.inr ⟨a, v, rfl, g, f.val s p rv⟩)
  · obtain ⟨d, e, p⟩ := o
    cases (show Rep c.K c.w G x _ from rx) with
    | dicC q =>
    obtain ⟨z, v, rfl, hq, rv⟩ := q.val e
    cases ry
    exact .inr (.inl ⟨_, z, v, rfl, rfl, hq, f.val s p rv⟩)
  · exact o.elim
def notSlice : Expr → Bool
  | .Slice .. => false
  | _ => true
theorem plainIx {b : Expr} (h : notSlice b = true) : PlainIx b := fun o i => by
  cases b <;> first | rfl | cases h
theorem ve_idx (ha : VE c a ta) (hb : VE c b tb) (hn : notSlice b = true := by rfl) : VE c (.Subscript a b pos) (eOp2 opIdx ta tb) := ve_op2 (fun X g => by
  have h : IxR X (rIdx c.K c.w) := by
    rw [← g.K, ← g.w]
    exact ix_seq.or (ix_kdict.or (ix_dget (g.hu)))
  exact pe_ix h pe_tu pe_tu (plainIx hn)) idx_s ha hb

/-! ### in -/
def opIn (neg : Bool) : D → D → (RV → Prop) → Prop
  | k, .dic t kvs, Q => t = t ∧ keyOk t k = true ∧ Q (.val (.bl (neg ^^ (dget kvs k).isSome)))
  | .str x, .str z, Q => ∃ ch, x = ⟨#[ch]⟩ ∧ Q (.val (.bl (neg ^^ (decide (ch ∈ z.cps.toList)))))
  | d, .lst ds, Q => D.okD 59 d = true ∧ D.okL 59 ds = true ∧ Q (.val (.bl (neg ^^ (decide (d ∈ ds)))))
  | d, .tup ds, Q => D.okD 0 d = true ∧ D.okL 0 ds = true ∧ Q (.val (.bl (neg ^^ (decide (d ∈ ds)))))
  | d, .ktup ds, Q => D.okD 0 d = true ∧ D.okL 0 ds = true ∧ Q (.val (.bl (neg ^^ (decide (d ∈ ds)))))
  | _, _, _ => False
def rInA (K : PySem.W.Frag) : R2 := fun x y H Q =>
  (∃ a o, y = .ref a ∧ DGet H a x o ∧ Q (.bl o.isSome) H) ∨ (∃ (c : Nat) (z : Str), x = .str ⟨#[c]⟩ ∧ y = .str z ∧ Q (.bl (decide (c ∈ z.cps.toList))) H) ∨ rIn K false x y H Q ∨ rInD K x y H Q
def rNotInA (K : PySem.W.Frag) : R2 := fun x y H Q =>
  (∃ a o, y = .ref a ∧ DGet H a x o ∧ Q (.bl (!o.isSome)) H) ∨ (∃ (c : Nat) (z : Str), x = .str ⟨#[c]⟩ ∧ y = .str z ∧ Q (.bl (!decide (c ∈ z.cps.toList))) H) ∨ rIn K true x y H Q ∨ rNotInD K x y H Q
theorem op_inDic {X : Cx} (hu : X.A.units + 1 < cLine) : OpR X (compareOp .In) (fun x y H Q => ∃ a o, y = .ref a ∧ DGet H a x o ∧ Q (.bl o.isSome) H) := by
  intro pins s σ H x y v u Q I rx ry h
  obtain ⟨a, o, rfl, g, q⟩ := h
  obtain rfl : u = Value.ref a := ry
  exact d_in hu I g rx fun s3 I3 => ⟨.bl o.isSome, H, I3, rfl, q⟩
theorem op_notInDic {X : Cx} (hu : X.A.units + 1 < cLine) : OpR X (compareOp .NotIn) (fun x y H Q => ∃ a o, y = .ref a ∧ DGet H a x o ∧ Q (.bl (!o.isSome)) H) := by
  intro pins s σ H x y v u Q I rx ry h
  obtain ⟨a, o, rfl, g, q⟩ := h
  obtain rfl : u = Value.ref a := ry
  exact d_notIn hu I g rx fun s3 I3 => ⟨.bl (!o.isSome), H, I3, rfl, q⟩
theorem ok0_nl {d : D} (h : D.okD 0 d = true) : d.isL = false := by cases d <;> first | rfl | (simp [D.okD] at h)
theorem ok0_flat {K : PySem.W.Frag} {w : World} {G : Hp} : ∀ {d : D} {v : V}, D.okD 0 d = true → Rep K w G v d → flatV v = true
  | .non, _, _, .non => rfl
  | .int _, _, _, .int _ => rfl
  | .str _, _, _, .str _ => rfl
  | .bl _, _, h, _ => by simp [D.okD] at h
  | .ty _, _, h, _ => by simp [D.okD] at h
  | .tup _, _, h, _ => by simp [D.okD] at h
  | .lst _, _, h, _ => by simp [D.okD] at h
  | .dic _ _, _, h, _ => by simp [D.okD] at h
  | .ktup _, _, h, _ => by simp [D.okD] at h
  | .kdic _, _, h, _ => by simp [D.okD] at h
  | .exc _ _, _, h, _ => by simp [D.okD] at h
  | .dix _, _, h, _ => by simp [D.okD] at h
  | .ins _ _, _, h, _ => by simp [D.okD] at h
theorem flats {K : PySem.W.Frag} {w : World} {G : Hp} : ∀ {ds : List D} {vs : List V}, D.okL 0 ds = true → RepL K w G vs ds → vs.all flatV = true
  | [], _, _, .nil => rfl
  | d :: ds, _, h, .cons q r => by
    simp only [D.okL, Bool.and_eq_true] at h
    rw [List.all_cons, ok0_flat h.1 q, flats h.2 r]
    rfl
theorem eqV_flat {K : PySem.W.Frag} {w : World} {G : Hp} {a b : V} {d e : D} (hd : D.okD 0 d = true) (he : D.okD 0 e = true) (ra : Rep K w G a d) (rb : Rep K w G b e) : eqV a b = decide (d = e) := by
  cases ra <;> (try (simp [D.okD] at hd; done)) <;> cases rb <;> (try (simp [D.okD] at he; done)) <;> simp [eqV]
  all_goals (rename_i i j; by_cases e : i = j <;> simp [e])
theorem inV_flat {K : PySem.W.Frag} {w : World} {G : Hp} {x : V} {d : D} (hd : D.okD 0 d = true) (rx : Rep K w G x d) : ∀ {ds : List D} {vs : List V}, D.okL 0 ds = true → RepL K w G vs ds → inV x vs = decide (d ∈ ds)
  | [], _, _, .nil => by simp [inV]
  | e :: ds, _, h, .cons q r => by
    simp only [D.okL, Bool.and_eq_true] at h
    have ih := inV_flat hd rx h.2 r
    unfold inV at ih ⊢
    rw [List.any_cons, ih, eqV_flat h.1 hd q rx]
    by_cases z : e = d
    · subst z; simp
    · simp [z, Ne.symm z]
theorem anyD {d : D} (hd : D.okD 60 d = true) : ∀ {ds : List D}, D.okL 60 ds = true → ((D.toPyL ds).any fun z => PyData.eqv z d.toPy) = decide (d ∈ ds)
  | [], _ => by simp [D.toPyL]
  | e :: ds, h => by
    simp only [D.okL, Bool.and_eq_true] at h
    rw [D.toPyL, List.any_cons, anyD hd h.2, eqv_dec h.1 hd]
    by_cases z : e = d
    · subst z; simp
    · simp [z, Ne.symm z]
mutual
theorem okD_up {m : Nat} : ∀ (n : Nat) (d : D), D.okD n d = true → n ≤ m → D.okD m d = true
  | n, .non, _, _ => by cases m <;> rfl
  | n, .int _, _, _ => by cases m <;> rfl
  | n, .str _, h, _ => by
    simp only [D.okD] at h
    cases m <;> simpa only [D.okD] using h
  | n, .bl _, h, _ => by cases n <;> simp [D.okD] at h
  | n, .ty _, h, _ => by cases n <;> simp [D.okD] at h
  | n, .dic _ _, h, _ => by cases n <;> simp [D.okD] at h
  | n, .ktup _, h, _ => by cases n <;> simp [D.okD] at h
  | n, .kdic _, h, _ => by cases n <;> simp [D.okD] at h
  | n, .exc _ _, h, _ => by cases n <;> simp [D.okD] at h
  | n, .dix _, h, _ => by cases n <;> simp [D.okD] at h
  | n, .ins _ _, h, _ => by cases n <;> simp [D.okD] at h
  | 0, .tup _, h, _ => by simp [D.okD] at h
  | 0, .lst _, h, _ => by simp [D.okD] at h
  | n + 1, .tup xs, h, l => by
    cases m with
    | zero => omega
    | succ m =>
      simp only [D.okD] at h ⊢
      exact okL_up n xs h (by omega)
  | n + 1, .lst xs, h, l => by
    cases m with
    | zero => omega
    | succ m =>
      simp only [D.okD] at h ⊢
      exact okL_up n xs h (by omega)
theorem okL_up {m : Nat} : ∀ (n : Nat) (d : List D), D.okL n d = true → n ≤ m → D.okL m d = true
  | n, [], _, _ => rfl
  | n, d :: ds, h, l => by
    simp only [D.okL, Bool.and_eq_true] at h ⊢
    exact ⟨okD_up n d h.1 l, okL_up n ds h.2 l⟩
end
theorem in_s : OpS2 c (rInA c.K) (opIn false) := by
  intro G H x y da db P K s rx ry o f
  unfold opIn at o
  split at o
  · obtain ⟨_, hk, p⟩ := o
    obtain ⟨a, ov, rfl, g, rel⟩ := RD.get s ry hk (keyOk_rep hk rx)
    refine .inl ⟨a, ov, rfl, g, f.val s ?_ (.bl _)⟩
    rw [rel.isSome]
    simpa using p
  · obtain ⟨ch, rfl, p⟩ := o
    cases rx; cases ry
    exact .inr (.inl ⟨_, _, rfl, rfl, f.val s (by simpa using p) (.bl _)⟩)
  · obtain ⟨h1, h2, p⟩ := o
    refine .inr (.inr (.inr ⟨_, _, RD.dp s rx h1, RD.dp (n := 60) s ry h2, D.shaped (okD_up _ _ h1 (by omega)), D.shaped (d := .lst _) h2, f.val s ?_ (.bl _)⟩))
    rw [anyD (okD_up _ _ h1 (by omega)) (okL_up _ _ h2 (by omega))]
    simpa using p
  · obtain ⟨h1, h2, p⟩ := o
    cases (show Rep c.K c.w G y _ from ry) with
    | tup q r =>
    have rx' := RD.rep s rx (ok0_nl h1)
    refine .inr (.inr (.inl ⟨_, _, rfl, .inr (SqT.of (s _ _ q)), ok0_flat h1 rx', flats h2 r, ?_⟩))
    rw [inV_flat h1 rx' h2 (r.mono s)]
    exact f.val s (by simpa using p) (.bl _)
  · obtain ⟨h1, h2, p⟩ := o
    cases (show Rep c.K c.w G y _ from ry) with
    | ktup q r =>
    have rx' := RD.rep s rx (ok0_nl h1)
    refine .inr (.inr (.inl ⟨_, _, rfl, .inr (.inr q), ok0_flat h1 rx', flats h2 r, ?_⟩))
    rw [inV_flat h1 rx' h2 (r.mono s)]
    exact f.val s (by simpa using p) (.bl _)
  · exact o.elim
theorem notin_s : OpS2 c (rNotInA c.K) (opIn true) := by
  intro G H x y da db P K s rx ry o f
  unfold opIn at o
  split at o
  · obtain ⟨_, hk, p⟩ := o
    obtain ⟨a, ov, rfl, g, rel⟩ := RD.get s ry hk (keyOk_rep hk rx)
    refine .inl ⟨a, ov, rfl, g, f.val s ?_ (.bl _)⟩
    rw [rel.isSome]
    simpa using p
  · obtain ⟨ch, rfl, p⟩ := o
    cases rx; cases ry
    exact .inr (.inl ⟨_, _, rfl, rfl, f.val s (by simpa using p) (.bl _)⟩)
  · obtain ⟨h1, h2, p⟩ := o
    refine .inr (.inr (.inr ⟨_, _, RD.dp s rx h1, RD.dp (n := 60) s ry h2, D.shaped (okD_up _ _ h1 (by omega)), D.shaped (d := .lst _) h2, f.val s ?_ (.bl _)⟩))
    rw [anyD (okD_up _ _ h1 (by omega)) (okL_up _ _ h2 (by omega))]
    simpa using p
  · obtain ⟨h1, h2, p⟩ := o
    cases (show Rep c.K c.w G y _ from ry) with
    | tup q r =>
    have rx' := RD.rep s rx (ok0_nl h1)
    refine .inr (.inr (.inl ⟨_, _, rfl, .inr (SqT.of (s _ _ q)), ok0_flat h1 rx', flats h2 r, ?_⟩))
    rw [inV_flat h1 rx' h2 (r.mono s)]
    exact f.val s (by simpa using p) (.bl _)
  · obtain ⟨h1, h2, p⟩ := o
    cases (show Rep c.K c.w G y _ from ry) with
    | ktup q r =>
    have rx' := RD.rep s rx (ok0_nl h1)
    refine .inr (.inr (.inl ⟨_, _, rfl, .inr (.inr q), ok0_flat h1 rx', flats h2 r, ?_⟩))
    rw [inV_flat h1 rx' h2 (r.mono s)]
    exact f.val s (by simpa using p) (.bl _)
  · exact o.elim
theorem room65 {X : Cx} (g : Good c X) : X.A.units + 65 < cLine := by have := g.roomH.un; omega
theorem r_in {X : Cx} (g : Good c X) : OpR X (compareOp .In) (rInA c.K) := by
  rw [← g.K]
  exact (op_inDic (g.hu)).or (op_in_sign.or (op_in_seq.or (op_inD (room65 g))))
theorem r_notin {X : Cx} (g : Good c X) : OpR X (compareOp .NotIn) (rNotInA c.K) := by
  rw [← g.K]
  exact (op_notInDic (g.hu)).or (op_notIn_sign.or (op_notIn_seq.or (op_notInD (room65 g))))
theorem ve_in (ha : VE c a ta) (hb : VE c b tb) (hm : behindInMarks .In b = false := by rfl) : VE c (.Compare a [.In] [b] pos) (eOp2 (opIn false) ta tb) := ve_op2 (fun X g => pe_cmpR (r_in g) pe_tu pe_tu hm) in_s ha hb
theorem vt_in (ha : VE c a ta) (hb : VE c b tb) (hm : behindInMarks .In b = false := by rfl) : VT c (.Compare a [.In] [b] pos) (tV (eOp2 (opIn false) ta tb)) := vt_op2 (fun X g => r_in g) in_s hm ha hb
theorem vt_notin (ha : VE c a ta) (hb : VE c b tb) (hm : behindInMarks .NotIn b = false := by rfl) : VT c (.Compare a [.NotIn] [b] pos) (tV (eOp2 (opIn true) ta tb)) := vt_op2 (fun X g => r_notin g) notin_s hm ha hb

/-! ### is None -/
def opIsN (neg : Bool) : D → D → (RV → Prop) → Prop
  | d, .non, Q => Q (.val (.bl (neg ^^ decide (d = .non))))
  | _, _, _ => False
/-! ### and, or, not; if else -/
def tNotD (t : TTt) : TTt := fun env Q Xq => t env (fun b e => Q (!b) e) Xq
def tAndD (t u : TTt) : TTt := fun env Q Xq => t env (fun b e => if b = true then u e Q Xq else Q false e) Xq
def tOrD (t u : TTt) : TTt := fun env Q Xq => t env (fun b e => if b = true then Q true e else u e Q Xq) Xq
variable {t u : TTt}
theorem vt_not (h : VT c a t) : VT c (.UnaryOp .Not a pos) (tNotD t) := by
  constructor
  intro X g G B H σ env Q Xq E q tk
  refine TUt.of (pt_not (pt_tu (e := a))) ?_
  exact (h.run X g G B H σ env _ Xq E q tk).imp fun b H1 ⟨e1, G1, q1, r⟩ => ⟨e1, G1, q1, r⟩
theorem vw_vt {e : Expr} (h : VW c e t) : VT c e t := ⟨fun X g G B H σ env Q Xq E q tk => fun pins s I => h.run X g G B H σ env Q Xq E q tk _ pins s I⟩
theorem vw_and1 (h : VT c a t) : VW c (.BoolOp .And [a] pos) t := ⟨fun X g G B H σ env Q Xq E q tk => TUw.of (pw_and1 (pt_tu (e := a))) (h.run X g G B H σ env Q Xq E q tk)⟩
theorem vw_or1 (h : VT c a t) : VW c (.BoolOp .Or [a] pos) t := ⟨fun X g G B H σ env Q Xq E q tk => TUw.of (pw_or1 (pt_tu (e := a))) (h.run X g G B H σ env Q Xq E q tk)⟩
theorem vw_and {r : List Expr} (h : VT c a t) (k : VW c (.BoolOp .And (b :: r) pos) u) : VW c (.BoolOp .And (a :: b :: r) pos) (tAndD t u) := by
  constructor
  intro X g G B H σ env Q Xq E q tk
  refine TUw.of (pw_and (pt_tu (e := a)) (pw_tu (e := .BoolOp .And (b :: r) pos))) ?_
  refine (h.run X g G B H σ env _ Xq E q tk).imp fun b H1 ⟨e1, G1, q1, E1, x1, k1⟩ => ?_
  cases b with
  | true =>
    rw [if_pos rfl] at q1 ⊢
    exact (k.run X g G1 B H1 σ e1 Q Xq E1 q1 (takes_up tk x1 k1)).imp fun b H2 z => z.up x1 k1
  | false =>
    rw [if_neg (by decide)] at q1 ⊢
    exact ⟨e1, G1, q1, E1, x1, k1⟩
theorem vw_or {r : List Expr} (h : VT c a t) (k : VW c (.BoolOp .Or (b :: r) pos) u) : VW c (.BoolOp .Or (a :: b :: r) pos) (tOrD t u) := by
  constructor
  intro X g G B H σ env Q Xq E q tk
  refine TUw.of (pw_or (pt_tu (e := a)) (pw_tu (e := .BoolOp .Or (b :: r) pos))) ?_
  refine (h.run X g G B H σ env _ Xq E q tk).imp fun b H1 ⟨e1, G1, q1, E1, x1, k1⟩ => ?_
  cases b with
  | true =>
    rw [if_pos rfl] at q1 ⊢
    exact ⟨e1, G1, q1, E1, x1, k1⟩
  | false =>
    rw [if_neg (by decide)] at q1 ⊢
    exact (k.run X g G1 B H1 σ e1 Q Xq E1 q1 (takes_up tk x1 k1)).imp fun b H2 z => z.up x1 k1
/-- as values -/
def eNot (t : ET) : ET := fun env Q Xq => t env (fun r e => ∃ b, r = .val (.bl b) ∧ Q (.val (.bl (!b))) e) Xq
def eAnd (t u : ET) : ET := fun env Q Xq => t env (fun r e => ∃ b, r = .val (.bl b) ∧ if b = true then u e Q Xq else Q (.val (.bl false)) e) Xq
def eOr (t u : ET) : ET := fun env Q Xq => t env (fun r e => ∃ b, r = .val (.bl b) ∧ if b = true then Q (.val (.bl true)) e else u e Q Xq) Xq
def eIf (t : TTt) (x y : ET) : ET := fun env Q Xq => t env (fun b e => if b = true then x e Q Xq else y e Q Xq) Xq
variable {x y : ET}
theorem ve_not (h : VE c a x) : VE c (.UnaryOp .Not a pos) (eNot x) := by
  constructor
  intro X g G B H σ env Q Xq E q tk
  refine TU.of (pe_not (pe_tu (e := a))) ?_
  refine (h.run X g G B H σ env _ Xq E q tk).imp fun v H1 z => ?_
  obtain ⟨rv, e1, G1, ⟨b, rfl, q1⟩, E1, x1, k1, r1⟩ := z
  cases (show Rep c.K c.w G1 v (.bl b) from r1)
  exact ⟨b, rfl, _, e1, G1, q1, E1, x1, k1, .bl _⟩
theorem ve_one {op : BoolOp} (h : VE c a x) : VE c (.BoolOp op [a] pos) x := ⟨fun X g G B H σ env Q Xq E q tk => TU.of (pe_one (pe_tu (e := a))) (h.run X g G B H σ env Q Xq E q tk)⟩
theorem ve_and {r : List Expr} (h : VE c a x) (k : VE c (.BoolOp .And (b :: r) pos) y) : VE c (.BoolOp .And (a :: b :: r) pos) (eAnd x y) := by
  constructor
  intro X g G B H σ env Q Xq E q tk
  refine TU.of (pe_and (pe_tu (e := a)) (pe_tu (e := .BoolOp .And (b :: r) pos))) ?_
  refine (h.run X g G B H σ env _ Xq E q tk).imp fun v H1 z => ?_
  obtain ⟨rv, e1, G1, ⟨b, rfl, q1⟩, E1, x1, k1, r1⟩ := z
  cases (show Rep c.K c.w G1 v (.bl b) from r1)
  refine ⟨b, rfl, ?_⟩
  cases b with
  | true =>
    rw [if_pos rfl] at q1 ⊢
    exact (k.run X g G1 B H1 σ e1 Q Xq E1 q1 (takes_up tk x1 k1)).imp fun b H2 z => z.up x1 k1
  | false =>
    rw [if_neg (by decide)] at q1 ⊢
    exact ⟨_, e1, G1, q1, E1, x1, k1, .bl _⟩
end
end VS

namespace VS
open PySem PySem.Spec L2

/-! ### shared values -/
def fzs (env : Env) : List RV → Option (List D × Env)
  | [] => some ([], env)
  | r :: rs => match fz env r with
    | some (d, e1) => match fzs e1 rs with
      | some (ds, e2) => some (d :: ds, e2)
      | none => none
    | none => none
section
variable {c : Cfg} {G B H : Hp} {σ : St}
theorem RepH.repR {env : Env} {v : V} {r : RV} {p : D × Env} (h : RepH c G σ v r) (e : fz env r = some p) : RepR c G B H σ env v r := by
  cases r with
  | val d => exact h
  | fr d => exact h.elim
  | slot i =>
    refine ⟨h, ?_⟩
    unfold fz at e
    unfold rd
    simp only at e ⊢
    split at e
    · rename_i d q; exact ⟨d, by rw [q]⟩
    · rename_i d q; exact ⟨d, by rw [q]⟩
    iterate 4
      · rename_i q; exact ⟨_, by rw [q]⟩
    · cases e
theorem RepHs.fzs : ∀ {G : Hp} {vs : List V} {rs : List RV} {env : Env} {ds : List D} {env' : Env}, RepEnv c G B H σ env → RepHs c G σ vs rs → VS.fzs env rs = some (ds, env') →
    ∃ G', Ext B G G' ∧ RepEnv c G' B H σ env' ∧ RepL c.K c.w G' vs ds ∧ Keeps env env'
  | G, _, _, _, _, _, E, .nil, e => by
    cases e
    exact ⟨G, Ext.refl _ _, E, .nil, Keeps.refl _⟩
  | G, _, _, _, _, _, E, .cons h r, e => by
    unfold VS.fzs at e
    split at e
    · rename_i d e1 q1
      split at e
      · rename_i ds e2 q2
        cases e
        obtain ⟨G1, x1, E1, r1, k1⟩ := RepR.fz (B := B) (H := H) E (h.repR q1) q1
        obtain ⟨G2, x2, E2, r2, k2⟩ := RepHs.fzs E1 (r.mono x1.1) q2
        exact ⟨G2, x1.trans x2, E2, .cons (r1.mono x2.1) r2, k1.trans k2⟩
      · cases e
    · cases e
end
def eTup (ta : AT) : ET := fun env Q Xq => ta env (fun rs e1 => ∃ ds e2, fzs e1 rs = some (ds, e2) ∧ ds.length ≤ sizeLine ∧ Q (.val (.tup ds)) e2) Xq
def eLst (ta : AT) : ET := fun env Q Xq => ta env (fun rs e1 => ∃ ds e2, fzs e1 rs = some (ds, e2) ∧ ds.length ≤ sizeLine ∧ Q (.fr (.lst ds)) e2) Xq
def eDic0 (t : Bool) : ET := fun env Q _ => Q (.fr (.dic t [])) env
section
variable {c : Cfg} {pos : Pos} {es : List Expr} {ta : AT}
theorem ve_tup {k : Nat} (h : VA c es ta) : VE c (.Tuple es k pos) (eTup ta) := by
  constructor
  intro X g G B H σ env Q Xq E q tk
  refine TU.of (pe_tup (pa_tu (es := es))) ?_
  refine (h.run X g G B H σ env _ Xq E q tk).imp fun vs H1 ⟨rs, e1, G1, ⟨ds, e2, q1, q2, q3⟩, E1, x1, k1, r1⟩ => ?_
  obtain ⟨G2, x2, E2, r2, k2⟩ := r1.fzs E1 q1
  refine ⟨by rw [r2.length]; exact q2, fun p hp => ?_⟩
  have f : Fin c G2 H1 (fun r => Q r e2) (VQ c G B σ env Q) := fun rv v G' H' p res rr => ⟨rv, e2, G', p, E2.go res, (x1.trans x2).trans (res.ext E2.bh), k1.trans k2, E2.goR res rr⟩
  exact f.tup E2.gh q3 r2 p hp
theorem ve_lst (h : VA c es ta) : VE c (.List es pos) (eLst ta) := by
  constructor
  intro X g G B H σ env Q Xq E q tk
  refine TU.of (pe_lst (pa_tu (es := es))) ?_
  refine (h.run X g G B H σ env _ Xq E q tk).imp fun vs H1 ⟨rs, e1, G1, ⟨ds, e2, q1, q2, q3⟩, E1, x1, k1, r1⟩ => ?_
  obtain ⟨G2, x2, E2, r2, k2⟩ := r1.fzs E1 q1
  refine ⟨by rw [r2.length]; exact q2, fun p hp => ?_⟩
  have f : Fin c G2 H1 (fun r => Q r e2) (VQ c G B σ env Q) := fun rv v G' H' p res rr => ⟨rv, e2, G', p, E2.go res, (x1.trans x2).trans (res.ext E2.bh), k1.trans k2, E2.goR res rr⟩
  exact f.lst E2.gh q3 r2 p hp
theorem ve_dic0K : VE c (.Dict [] [] pos) (eDic0 false) := by
  constructor
  intro X g G B H σ env Q Xq E q tk
  refine TU.of pe_dnewK fun p hp => ?_
  have f : Fin c G H (fun r => Q r env) (VQ c G B σ env Q) := fun rv v G' H' p res rr => ⟨rv, env, G', p, E.go res, res.ext E.bh, Keeps.refl _, E.goR res rr⟩
  exact f.dicK E.gh q .nil p hp
theorem ve_dic0T : VE c (.Dict [] [] pos) (eDic0 true) := by
  constructor
  intro X g G B H σ env Q Xq E q tk
  refine TU.of pe_dnewT fun p hp => ?_
  have f : Fin c G H (fun r => Q r env) (VQ c G B σ env Q) := fun rv v G' H' p res rr => ⟨rv, env, G', p, E.go res, res.ext E.bh, Keeps.refl _, E.goR res rr⟩
  exact f.dicT E.gh q .nil p hp
end

/-! ### slices -/
def cutD {α : Type} (xs : List α) (lo hi : Option Int) : List α := (xs.drop (HT.sIx xs.length 0 lo)).take (HT.sIx xs.length xs.length hi - HT.sIx xs.length 0 lo)
def opSl (lo hi : Option Int) : D → (RV → Prop) → Prop
  | .lst xs, Q => Q (.fr (.lst (cutD xs lo hi)))
  | .tup xs, Q => Q (.val (.tup (cutD xs lo hi)))
  | .str z, Q => z.length ≤ sizeLine ∧ Q (.val (.str (cutS z lo hi)))
  | _, _ => False
def rSlAll (K : PySem.W.Frag) : V → Option Int → Option Int → Hp → VK → Prop := fun x lo hi H Q => rSlL K x lo hi H Q ∨ rSlA K x lo hi H Q ∨ rSlS x lo hi H Q
theorem cutD_whole {α : Type} {xs : List α} {lo hi : Option Int} (h : HT.sIx xs.length 0 lo = 0 ∧ HT.sIx xs.length xs.length hi = xs.length) : cutD xs lo hi = xs := by
  unfold cutD
  rw [h.1, h.2]
  simp
section
variable {c : Cfg} {pos p2 : Pos} {a lo hi : Expr} {ta tl th : ET}
theorem sl_s {G H : Hp} {x : V} {d : D} {l h : Option Int} {P : RV → Prop} {K : VK} (s : Same G H) (rx : RD c.K c.w H G x d) (o : opSl l h d P) (f : Fin c G H P K) : rSlAll c.K x l h H K := by
  cases d <;> try exact False.elim o
  · cases rx
    exact .inr (.inr ⟨_, rfl, o.1, f.val s o.2 (.str _)⟩)
  · rename_i xs
    cases (show Rep c.K c.w G x _ from rx) with
    | @tup a vs _ q r =>
    refine .inr (.inl ⟨_, _, rfl, SqT.of (s _ _ q), fun e => ?_, fun e => ?_⟩)
    · rw [r.length] at e
      exact f.val s o (by rw [cutD_whole e]; exact rx)
    · refine f.tup (ds := cutD xs l h) s o ?_
      unfold cutV cutD
      rw [r.length]
      exact (r.drop _).take _
  · rename_i xs
    obtain ⟨a, vs, rfl, q, r⟩ := rx
    refine .inl ⟨_, _, rfl, q, ?_⟩
    refine f.lst (ds := cutD xs l h) s o ?_
    unfold cutV cutD
    rw [r.length]
    exact (r.drop _).take _
theorem sl_r {X : Cx} (g : Good c X) : SlR X (rSlAll c.K) := by
  rw [← g.K]
  exact sl_list.or (sl_tupA.or sl_str)
def eSl11 (ta tl th : ET) : ET := fun env Q Xq => ta env (fun r e1 => tl e1 (fun rl e2 => ∃ i, rl = .val (.int i) ∧ th e2 (fun rh e3 => ∃ d j, rh = .val (.int j) ∧ rd e3 r.hold = some d ∧ opSl (some i) (some j) d fun r => Q r e3) Xq) Xq) Xq
def eSl10 (ta tl : ET) : ET := fun env Q Xq => ta env (fun r e1 => tl e1 (fun rl e2 => ∃ d i, rl = .val (.int i) ∧ rd e2 r.hold = some d ∧ opSl (some i) none d fun r => Q r e2) Xq) Xq
def eSl01 (ta th : ET) : ET := fun env Q Xq => ta env (fun r e1 => th e1 (fun rl e2 => ∃ d i, rl = .val (.int i) ∧ rd e2 r.hold = some d ∧ opSl none (some i) d fun r => Q r e2) Xq) Xq
theorem ve_sl11 (ha : VE c a ta) (hl : VE c lo tl) (hh : VE c hi th) : VE c (.Subscript a (.Slice (some lo) (some hi) none p2) pos) (eSl11 ta tl th) := by
  constructor
  intro X g G B H σ env Q Xq E q tk
  refine TU.of (pe_slice (sl_r g) (pe_tu (e := a)) (po_some (pe_tu (e := lo))) (po_some (pe_tu (e := hi)))) ?_
  refine (ha.run X g G B H σ env _ Xq E q tk).imp fun x H1 ⟨ra, e1, G1, q1, E1, x1, k1, r1⟩ => ?_
  obtain ⟨G2, x2, E2, h2⟩ := r1.hold E1
  refine (hl.run X g G2 B H1 σ e1 _ Xq E2 q1 (takes_up tk (x1.trans x2) k1)).imp fun y H2 z => ?_
  obtain ⟨rb, e2, G3, ⟨i, rfl, q3⟩, E3, x3, k3, r3⟩ := z
  cases (show Rep c.K c.w G3 y (.int i) from r3)
  refine ⟨i, rfl, ?_⟩
  refine (hh.run X g G3 B H2 σ e2 _ Xq E3 q3 (takes_up tk ((x1.trans x2).trans x3) (k1.trans k3))).imp fun w H3 z => ?_
  obtain ⟨rc, e3, G4, ⟨d, j, rfl, d1, o⟩, E4, x4, k4, r4⟩ := z
  cases (show Rep c.K c.w G4 w (.int j) from r4)
  refine ⟨j, rfl, sl_s E4.gh (E4.rdH (h2.mono (x3.trans x4).1) d1) o fun rv v G' H' p res rr => ?_⟩
  exact ⟨rv, e3, G', p, E4.go res, ((x1.trans x2).trans (x3.trans x4)).trans (res.ext E4.bh), k1.trans (k3.trans k4), E4.goR res rr⟩
end

/-! ### built-in functions, by their arguments -/
structure BltC (c : Cfg) (x : Str) (u : Value) : Prop where
  gl : GlC c x
  mg : c.mg x = none
  bt : bootBuiltins x = some u
  nn : x ≠ "__name__"
  nd : (x == ("__debug__" : Str)) = false
theorem noStars {es : List Expr} {env : PySem.Env} {pos : Pos} (h : es.all noStar = true) : (backTo pos (starEach es env)).any (·.1) = false := by
  induction es with
  | nil => rfl
  | cons e es ih =>
    rw [List.all_cons, Bool.and_eq_true] at h
    rw [star_cons h.1]
    have ih := ih h.2
    unfold backTo at ih ⊢
    rw [List.map_cons, List.any_cons, ih]
    rfl
section
variable {c : Cfg} {pos p : Pos} {x : Str} {e : Expr} {es : List Expr} {ta : AT} {r : List V → Hp → VK → Prop} {op : List D → (RV → Prop) → Prop}
theorem ve_blt {id : String} (b : BltC c x (.builtin id)) (hr : ∀ X, Good c X → CallR X (.builtin id) r) (hs : OpSn c r op) (ha : VA c (e :: es) ta) (hn : (e :: es).all noStar = true := by rfl) : VE c (.Call (.Name x p) (e :: es) [] pos) (eOpn op ta) :=
  ve_opn (fun X g => by
    have hn2 : noStar e = true ∧ es.all noStar = true := by
      rw [List.all_cons, Bool.and_eq_true] at hn
      exact hn
    exact pe_callB (hr X g) (b.gl.gl g) (by rw [g.mg]; exact b.mg) b.bt (pa_tu (es := e :: es)) b.nn b.nd (star_cons hn2.1) (noStars hn2.2)) hs ha
theorem ve_bty {T : String} (b : BltC c x (.type T)) (hr : ∀ X, Good c X → CallR X (.type T) r) (hs : OpSn c r op) (ha : VA c (e :: es) ta) (hn : (e :: es).all noStar = true := by rfl) : VE c (.Call (.Name x p) (e :: es) [] pos) (eOpn op ta) :=
  ve_opn (fun X g => by
    have hn2 : noStar e = true ∧ es.all noStar = true := by
      rw [List.all_cons, Bool.and_eq_true] at hn
      exact hn
    exact pe_callTy (hr X g) (b.gl.gl g) (by rw [g.mg]; exact b.mg) b.bt (pa_tu (es := e :: es)) b.nn b.nd (star_cons hn2.1) (noStars hn2.2)) hs ha
end
end VS

namespace VS
open PySem PySem.Spec L2

/-! ### statements -/
structure EndsD where
  nx : Env → Prop
  rt : RV → Env → Prop
  bk : Env → Prop
  ct : Env → Prop
  xq : XQ
abbrev STt := EndsD → Env → Prop
def TUs (X : Cx) (st : Stmt) : TS := fun D σ H => ∀ (pins : List (Addr × Obj)) (s : Shared), Inv X pins σ H s → wpAny (model X.prog X.w) X.A (exec st X.env) (SP X pins D) X.xe s
def TUss (X : Cx) (st : List Stmt) : TS := fun D σ H => ∀ (pins : List (Addr × Obj)) (s : Shared), Inv X pins σ H s → wpAny (model X.prog X.w) X.A (execs st X.env) (SP X pins D) X.xe s
theorem ps_tu {X : Cx} {st : Stmt} : PS X st (TUs X st) := ⟨fun pins s σ H Q I h => h pins s I⟩
theorem pss_tu {X : Cx} {st : List Stmt} : PSs X st (TUss X st) := ⟨fun pins s σ H Q I h => h pins s I⟩
/-- what follows from more -/
structure EndsLe (D D' : Ends) : Prop where
  nx : ∀ σ H, D.nx σ H → D'.nx σ H
  rt : ∀ v H, D.rt v H → D'.rt v H
  bk : ∀ σ H, D.bk σ H → D'.bk σ H
  ct : ∀ σ H, D.ct σ H → D'.ct σ H
theorem SP_imp {X : Cx} {pins : List (Addr × Obj)} {D D' : Ends} {f : Flow} {s : Shared} (l : EndsLe D D') (h : SP X pins D f s) : SP X pins D' f s := by
  cases f with
  | next => obtain ⟨σ', H', I, q⟩ := h; exact ⟨σ', H', I, l.nx _ _ q⟩
  | brk => obtain ⟨σ', H', I, q⟩ := h; exact ⟨σ', H', I, l.bk _ _ q⟩
  | cont => obtain ⟨σ', H', I, q⟩ := h; exact ⟨σ', H', I, l.ct _ _ q⟩
  | ret u => obtain ⟨v, σ', H', I, r, q⟩ := h; exact ⟨v, σ', H', I, r, l.rt _ _ q⟩
theorem TUs.imp {X : Cx} {st : Stmt} {D D' : Ends} {σ : St} {H : Hp} (l : EndsLe D D') (h : TUs X st D σ H) : TUs X st D' σ H := fun pins s I => thn (h pins s I) fun _ _ q => SP_imp l q
theorem TUss.imp {X : Cx} {st : List Stmt} {D D' : Ends} {σ : St} {H : Hp} (l : EndsLe D D') (h : TUss X st D σ H) : TUss X st D' σ H := fun pins s I => thn (h pins s I) fun _ _ q => SP_imp l q
theorem TUs.of {X : Cx} {st : Stmt} {t : TS} {D : Ends} {σ : St} {H : Hp} (h : PS X st t) (q : t D σ H) : TUs X st D σ H := fun pins s I => h.run pins s σ H D I q
theorem TUss.of {X : Cx} {st : List Stmt} {t : TS} {D : Ends} {σ : St} {H : Hp} (h : PSs X st t) (q : t D σ H) : TUss X st D σ H := fun pins s I => h.run pins s σ H D I q
def EN (c : Cfg) (G B : Hp) (σ : St) (env : Env) (P : Env → Prop) : St → Hp → Prop := fun σ' H' => ∃ env' G', P env' ∧ RepEnv c G' B H' σ' env' ∧ Ext B G G' ∧ BorS env env' σ σ'
def ER (c : Cfg) (G B : Hp) (σ : St) (env : Env) (P : RV → Env → Prop) : VK := fun v H' => ∃ rv env' G' σ', P rv env' ∧ RepEnv c G' B H' σ' env' ∧ Ext B G G' ∧ BorS env env' σ σ' ∧ RepR c G' B H' σ' env' v rv
def EndsOf (c : Cfg) (G B : Hp) (σ : St) (env : Env) (D : EndsD) : Ends := { nx := EN c G B σ env D.nx, rt := ER c G B σ env D.rt, bk := EN c G B σ env D.bk, ct := EN c G B σ env D.ct }
section
variable {c : Cfg} {G B G1 : Hp} {σ σ1 : St} {env e1 : Env}
theorem EN.up {P : Env → Prop} {σ' : St} {H' : Hp} (h : EN c G1 B σ1 e1 P σ' H') (x : Ext B G G1) (b : BorS env e1 σ σ1) : EN c G B σ env P σ' H' := by
  obtain ⟨env', G', q, E, x', b'⟩ := h
  exact ⟨env', G', q, E, x.trans x', b.trans b'⟩
theorem ER.up {P : RV → Env → Prop} {v : V} {H' : Hp} (h : ER c G1 B σ1 e1 P v H') (x : Ext B G G1) (b : BorS env e1 σ σ1) : ER c G B σ env P v H' := by
  obtain ⟨rv, env', G', σ', q, E, x', b', r⟩ := h
  exact ⟨rv, env', G', σ', q, E, x.trans x', b.trans b', r⟩
theorem EndsOf.up {D : EndsD} (x : Ext B G G1) (b : BorS env e1 σ σ1) : EndsLe (EndsOf c G1 B σ1 e1 D) (EndsOf c G B σ env D) :=
  ⟨fun _ _ h => EN.up h x b, fun _ _ h => ER.up h x b, fun _ _ h => EN.up h x b, fun _ _ h => EN.up h x b⟩
theorem takes_ups {X : Cx} {Xq : XQ} (t : Takes X (WXo c G B σ env Xq)) (x : Ext B G G1) (b : BorS env e1 σ σ1) : Takes X (WXo c G1 B σ1 e1 Xq) :=
  t.imp fun cls d σ' H' ⟨xd, env', G', q, E, x', b', r⟩ => ⟨xd, env', G', q, E, x.trans x', BorS.trans b b', r⟩
end
structure VS1 (c : Cfg) (st : Stmt) (t : STt) : Prop where
  run : ∀ (X : Cx), Good c X → ∀ (G B H : Hp) (σ : St) (env : Env) (D : EndsD), RepEnv c G B H σ env → t D env → Takes X (WXo c G B σ env D.xq) → TUs X st (EndsOf c G B σ env D) σ H
structure VSs (c : Cfg) (st : List Stmt) (t : STt) : Prop where
  run : ∀ (X : Cx), Good c X → ∀ (G B H : Hp) (σ : St) (env : Env) (D : EndsD), RepEnv c G B H σ env → t D env → Takes X (WXo c G B σ env D.xq) → TUss X st (EndsOf c G B σ env D) σ H

def sNext : STt := fun D env => D.nx env
def sSeq (t u : STt) : STt := fun D env => t { D with nx := fun e => u D e } env
def sIf (t : TTt) (a b : STt) : STt := fun D env => t env (fun k e => if k = true then a D e else b D e) D.xq
def sRet (t : ET) : STt := fun D env => t env D.rt D.xq
def sRetN : STt := fun D env => D.rt (.val .non) env
def sDrop (t : ET) : STt := fun D env => t env (fun _ e => D.nx e) D.xq
section
variable {c : Cfg} {pos : Pos}
theorem vss_nil : VSs c [] sNext := ⟨fun X g G B H σ env D E q tk => TUss.of pss_nil ⟨env, G, q, E, Ext.refl _ _, BorS.refl _ _⟩⟩
theorem vss_cons {s : Stmt} {r : List Stmt} {t u : STt} (h1 : VS1 c s t) (h2 : VSs c r u) : VSs c (s :: r) (sSeq t u) := by
  constructor
  intro X g G B H σ env D E q tk
  refine TUss.of (pss_cons (ps_tu (st := s)) (pss_tu (st := r))) ?_
  refine TUs.imp ?_ (h1.run X g G B H σ env _ E q tk)
  refine ⟨fun σ' H' ⟨env', G', q', E', x', b'⟩ => ?_, fun _ _ h => h, fun _ _ h => h, fun _ _ h => h⟩
  exact (h2.run X g G' B H' σ' env' D E' q' (takes_ups tk x' b')).imp (EndsOf.up x' b')
theorem vss_one {s : Stmt} {t : STt} (h1 : VS1 c s t) : VSs c [s] t := ⟨fun X g G B H σ env D E q tk => TUss.of (pss_one (ps_tu (st := s))) (h1.run X g G B H σ env D E q tk)⟩
theorem vs_if {e : Expr} {a b : List Stmt} {t : TTt} {u v : STt} (ht : VT c e t) (ha : VSs c a u) (hb : VSs c b v) : VS1 c (.If e a b pos) (sIf t u v) := by
  constructor
  intro X g G B H σ env D E q tk
  refine TUs.of (ps_if (pt_tu (e := e)) (pss_tu (st := a)) (pss_tu (st := b))) ?_
  refine (ht.run X g G B H σ env _ D.xq E q tk).imp fun k H1 ⟨e1, G1, q1, E1, x1, k1⟩ => ?_
  have b1 := k1.bors σ
  cases k with
  | true =>
    rw [if_pos rfl] at q1 ⊢
    exact (ha.run X g G1 B H1 σ e1 D E1 q1 (takes_ups tk x1 b1)).imp (EndsOf.up x1 b1)
  | false =>
    rw [if_neg (by decide)] at q1 ⊢
    exact (hb.run X g G1 B H1 σ e1 D E1 q1 (takes_ups tk x1 b1)).imp (EndsOf.up x1 b1)
theorem vs_ret {e : Expr} {t : ET} (h : VE c e t) : VS1 c (.Return (some e) pos) (sRet t) := by
  constructor
  intro X g G B H σ env D E q tk
  refine TUs.of (ps_ret (pe_tu (e := e))) ?_
  refine (h.run X g G B H σ env _ D.xq E q tk).imp fun v H1 ⟨rv, e1, G1, q1, E1, x1, k1, r1⟩ => ?_
  exact ⟨rv, e1, G1, σ, q1, E1, x1, k1.bors σ, r1⟩
theorem vs_expr {e : Expr} {t : ET} (h : VE c e t) (hs : ∀ env : PySem.Env, swapsWith e none pos.line env = pure false := by intros; rfl) : VS1 c (.Expr e pos) (sDrop t) := by
  constructor
  intro X g G B H σ env D E q tk
  refine TUs.of (ps_expr (pe_tu (e := e)) (hs X.env)) ?_
  refine (h.run X g G B H σ env _ D.xq E q tk).imp fun v H1 ⟨rv, e1, G1, q1, E1, x1, k1, r1⟩ => ?_
  exact ⟨e1, G1, q1, E1, x1, k1.bors σ⟩
end

/-! ### slots stored -/
theorem RepEnv.setVal {c : Cfg} {G B H : Hp} {σ : St} {env : Env} (E : RepEnv c G B H σ env) {i : Nat} {v : V} {d : D} (hi : i < env.length) (r : Rep c.K c.w G v d) : RepEnv c G B H (σ.set i (some v)) (env.set i (.val d)) := by
  have hσ : i < σ.length := by rw [E.len]; exact hi
  have old : ∀ {j : Nat} {s : Slot}, (env.set i (.val d))[j]? = some s → (j = i ∧ s = .val d) ∨ (j ≠ i ∧ env[j]? = some s ∧ (σ.set i (some v))[j]? = σ[j]?) := fun {j s} ej => by
    by_cases z : j = i
    · subst z
      rw [List.getElem?_set_self hi] at ej
      exact .inl ⟨rfl, (Option.some.inj ej).symm⟩
    · rw [List.getElem?_set_ne (Ne.symm z)] at ej
      exact .inr ⟨z, ej, List.getElem?_set_ne (Ne.symm z)⟩
  refine ⟨E.gh, E.bh, by rw [List.length_set, List.length_set]; exact E.len, fun j d' e => ?_, fun j d' e => ?_, fun j d' e => ?_, fun j k d1 d2 b e1 e2 h1 h2 => ?_⟩
  · rcases old e with ⟨rfl, es⟩ | ⟨ne, e', es⟩
    · cases es
      exact ⟨v, List.getElem?_set_self hσ, r⟩
    · rw [es]
      exact E.val j d' e'
  · rcases old e with ⟨rfl, es⟩ | ⟨ne, e', es⟩
    · cases es
    · rw [es]
      exact E.own j d' e'
  · rcases old e with ⟨rfl, es⟩ | ⟨ne, e', es⟩
    · cases es
    · rw [es]
      exact E.bor j d' e'
  · rcases old e1 with ⟨rfl, es⟩ | ⟨ne1, e1', es1⟩
    · cases es
    · rcases old e2 with ⟨rfl, es⟩ | ⟨ne2, e2', es2⟩
      · cases es
      · rw [es1] at h1
        rw [es2] at h2
        exact E.dis j k d1 d2 b e1' e2' h1 h2
theorem RepEnv.setFr {c : Cfg} {G B H : Hp} {σ : St} {env : Env} (E : RepEnv c G B H σ env) {i : Nat} {v : V} {d : D} (hi : i < env.length) (r : RepR c G B H σ env v (.fr d)) : RepEnv c G B H (σ.set i (some v)) (env.set i (.own d)) := by
  obtain ⟨a, o, rfl, q1, q2, q3, q4, q5⟩ := r
  have hσ : i < σ.length := by rw [E.len]; exact hi
  have old : ∀ {j : Nat} {s : Slot}, (env.set i (.own d))[j]? = some s → (j = i ∧ s = .own d) ∨ (j ≠ i ∧ env[j]? = some s ∧ (σ.set i (some (V.ref a)))[j]? = σ[j]?) := fun {j s} ej => by
    by_cases z : j = i
    · subst z
      rw [List.getElem?_set_self hi] at ej
      exact .inl ⟨rfl, (Option.some.inj ej).symm⟩
    · rw [List.getElem?_set_ne (Ne.symm z)] at ej
      exact .inr ⟨z, ej, List.getElem?_set_ne (Ne.symm z)⟩
  refine ⟨E.gh, E.bh, by rw [List.length_set, List.length_set]; exact E.len, fun j d' e => ?_, fun j d' e => ?_, fun j d' e => ?_, fun j k d1 d2 b e1 e2 h1 h2 => ?_⟩
  · rcases old e with ⟨rfl, es⟩ | ⟨ne, e', es⟩
    · cases es
    · rw [es]
      exact E.val j d' e'
  · rcases old e with ⟨rfl, es⟩ | ⟨ne, e', es⟩
    · cases es
      exact ⟨a, o, List.getElem?_set_self hσ, q1, q2, q3, q4⟩
    · rw [es]
      exact E.own j d' e'
  · rcases old e with ⟨rfl, es⟩ | ⟨ne, e', es⟩
    · cases es
    · rw [es]
      exact E.bor j d' e'
  · rcases old e1 with ⟨rfl, es⟩ | ⟨ne1, e1', es1⟩
    · rcases old e2 with ⟨rfl, es'⟩ | ⟨ne2, e2', es2⟩
      · rfl
      · rw [List.getElem?_set_self hσ] at h1
        cases h1
        rw [es2] at h2
        exact absurd h2 (q5 k d2 e2')
    · rcases old e2 with ⟨rfl, es⟩ | ⟨ne2, e2', es2⟩
      · rw [List.getElem?_set_self hσ] at h2
        cases h2
        rw [es1] at h1
        exact absurd h1 (q5 j d1 e1')
      · rw [es1] at h1
        rw [es2] at h2
        exact E.dis j k d1 d2 b e1' e2' h1 h2
theorem bors_set {env : Env} {σ : St} {i : Nat} {s : Slot} {o : Option V} (hi : i < env.length) (h : ∀ d, s ≠ .bor d) : BorS env (env.set i s) σ (σ.set i o) := fun j d e => by
  by_cases z : j = i
  · subst z
    rw [List.getElem?_set_self hi] at e
    cases e
    exact absurd rfl (h d)
  · rw [List.getElem?_set_ne (Ne.symm z)] at e
    exact ⟨e, List.getElem?_set_ne (Ne.symm z)⟩
/-- x = a value -/
def asgN (i : Nat) (rv : RV) (env : Env) : Option Env := match rv with
  | .fr d => some (env.set i (.own d))
  | r => match fz env r with
    | some (d, e) => some (e.set i (.val d))
    | none => none
def StoC (c : Cfg) (i : Nat) (x : Str) : Prop := c.N[i]? = some x ∧ Loc c.scope x ∧ (c.fn x = true ∨ c.scope.names.lookup x = some .local)
def sSet (i : Nat) (t : ET) : STt := fun D env => t env (fun rv e1 => ∃ e2, asgN i rv e1 = some e2 ∧ D.nx e2) D.xq
section
variable {c : Cfg} {pos pos' : Pos}
theorem RepEnv.asgN {G B H : Hp} {σ : St} {env e2 : Env} {v : V} {rv : RV} {i : Nat} (E : RepEnv c G B H σ env) (hi : i < env.length) (r : RepR c G B H σ env v rv) (e : VS.asgN i rv env = some e2) :
    ∃ G', Ext B G G' ∧ RepEnv c G' B H (σ.set i (some v)) e2 ∧ BorS env e2 σ (σ.set i (some v)) := by
  have go : (match fz env rv with
    | some (d, e) => some (e.set i (.val d))
    | none => none) = some e2 → ∃ G', Ext B G G' ∧ RepEnv c G' B H (σ.set i (some v)) e2 ∧ BorS env e2 σ (σ.set i (some v)) := fun e => by
    split at e
    · rename_i d e1 q
      cases e
      obtain ⟨G', x, E', r', k⟩ := RepR.fz E r q
      have hi' : i < e1.length := by rw [k.1]; exact hi
      exact ⟨G', x, E'.setVal hi' r', BorS.trans (k.bors σ) (bors_set hi' fun d h => by cases h)⟩
    · cases e
  cases rv with
  | fr d =>
    unfold VS.asgN at e
    cases e
    exact ⟨G, Ext.refl _ _, E.setFr hi r, bors_set hi fun d h => by cases h⟩
  | val d => exact go e
  | slot j => exact go e
theorem vs_set {i : Nat} {x : Str} {e : Expr} {t : ET} (hx : StoC c i x) (h : VE c e t) (hs : ∀ env : PySem.Env, swapsWith e (some (.Name x pos')) pos.line env = pure false := by intros; rfl) : VS1 c (.Assign [.Name x pos'] e pos) (sSet i t) := by
  constructor
  intro X g G B H σ env D E q tk
  refine TUs.of (ps_set g.nd (i := i) (by rw [g.N]; exact hx.1) (by rw [g.scope]; exact hx.2.1) (pe_tu (e := e)) (hs X.env) (by rw [g.fn, g.scope]; exact hx.2.2)) ?_
  refine fun pins s I => ?_
  have hl : i < env.length := by
    rw [← E.len, I.len, g.N]
    exact (List.getElem?_eq_some_iff.mp hx.1).1
  have z := (h.run X g G B H σ env _ D.xq E q tk) pins s I
  refine thn z fun u s' ⟨v, H1, I1, r, rv, e1, G1, ⟨e2, qa, qn⟩, E1, x1, k1, r1⟩ => ⟨v, H1, I1, r, ?_⟩
  obtain ⟨G', x2, E2, b2⟩ := E1.asgN (by rw [k1.1]; exact hl) r1 qa
  exact ⟨e2, G', qn, E2, x1.trans x2, BorS.trans (k1.bors σ) b2⟩

/-! ### a slot's own list or dict is changed -/
theorem RepEnv.setOwn {G B H : Hp} {σ : St} {env : Env} (E : RepEnv c G B H σ env) {i : Nat} {a : Addr} {d d' : D} {o' : HO} (ei : env[i]? = some (.own d)) (es : σ[i]? = some (some (.ref a))) (r : OwnO c.K c.w G d' o') : RepEnv c G B (upd H a o') σ (env.set i (.own d')) := by
  obtain ⟨b, o, k1, q1, q2, q3, q4⟩ := E.own i d ei
  rw [es] at k1
  cases k1
  have hi : i < env.length := (List.getElem?_eq_some_iff.mp ei).1
  have old : ∀ {j : Nat} {s : Slot}, (env.set i (.own d'))[j]? = some s → (j = i ∧ s = .own d') ∨ (j ≠ i ∧ env[j]? = some s) := fun {j s} ej => by
    by_cases z : j = i
    · subst z
      rw [List.getElem?_set_self hi] at ej
      exact .inl ⟨rfl, (Option.some.inj ej).symm⟩
    · rw [List.getElem?_set_ne (Ne.symm z)] at ej
      exact .inr ⟨z, ej⟩
  have keep : ∀ {F : Hp}, Same F H → F a = none → Same F (upd H a o') := fun {F} s n b u e => by
    have ne : b ≠ a := ne_of_none e n
    rw [upd_ne ne]
    exact s b u e
  refine ⟨keep E.gh q1, keep E.bh q2, by rw [List.length_set]; exact E.len, fun j dj e => ?_, fun j dj e => ?_, fun j dj e => ?_, fun j k d1 d2 b e1 e2 h1 h2 => ?_⟩
  · rcases old e with ⟨rfl, z⟩ | ⟨ne, e'⟩
    · cases z
    · exact E.val j dj e'
  · rcases old e with ⟨rfl, z⟩ | ⟨ne, e'⟩
    · cases z
      exact ⟨a, o', es, q1, q2, upd_same, r⟩
    · obtain ⟨b, ob, m1, m2, m3, m4, m5⟩ := E.own j dj e'
      have nb : b ≠ a := fun z => ne (E.dis j i dj d a e' ei (by rw [← z]; exact m1) es)
      exact ⟨b, ob, m1, m2, m3, by rw [upd_ne nb]; exact m4, m5⟩
  · rcases old e with ⟨rfl, z⟩ | ⟨ne, e'⟩
    · cases z
    · exact E.bor j dj e'
  · rcases old e1 with ⟨rfl, z⟩ | ⟨ne1, e1'⟩
    · rcases old e2 with ⟨rfl, z'⟩ | ⟨ne2, e2'⟩
      · rfl
      · exact E.dis _ k d d2 b ei e2' h1 h2
    · rcases old e2 with ⟨rfl, z'⟩ | ⟨ne2, e2'⟩
      · exact E.dis j _ d1 d b e1' ei h1 h2
      · exact E.dis j k d1 d2 b e1' e2' h1 h2
theorem keeps_own {env : Env} {i : Nat} {d d' : D} (ei : env[i]? = some (.own d)) : Keeps env (env.set i (.own d')) := ⟨List.length_set, fun j dj e => by
  have hi : i < env.length := (List.getElem?_eq_some_iff.mp ei).1
  by_cases z : j = i
  · subst z
    rw [List.getElem?_set_self hi] at e
    cases e
  · rw [List.getElem?_set_ne (Ne.symm z)] at e
    exact e⟩
/-- x.append(e) -/
def eApp (i : Nat) (t : ET) : ET := fun env Q Xq => ∃ ds0, env[i]? = some (.own (.lst ds0)) ∧ t env (fun rv e1 => ∃ d e2 ds, fz e1 rv = some (d, e2) ∧ e2[i]? = some (.own (.lst ds)) ∧ ds.length < sizeLine ∧ ∃ e3, e2.set i (.own (.lst (ds ++ [d]))) = e3 ∧ Q (.val .non) e3) Xq
def NamC (c : Cfg) (i : Nat) (x : Str) : Prop := VisC c i x
theorem ve_app {i : Nat} {x : Str} {p apos : Pos} {e : Expr} {t : ET} (hx : VisC c i x) (h : VE c e t) (hn : noStar e = true := by rfl) (hline : (apos.endLine == pos.line) = true := by rfl) :
    VE c (.Call (.Attribute (.Name x p) "append" apos) [e] [] pos) (eApp i t) := by
  constructor
  intro X g G B H σ env Q Xq E q tk
  obtain ⟨h1, h2, h3, h4⟩ := hx
  have hs := star_cons (es := []) (env := X.env) hn
  refine TU.of (pe_bm PySem.F.plainAttrs_list PySem.F.slot_list_append PySem.F.type_list_append mt_append (pe_var (i := i) (x := x) (by rw [g.N]; exact h1) (by rw [g.scope]; exact h2) h3 h4) (pa_cons (pe_tu (e := e)) pa_nil hs) (by rfl) (by rw [hs]; rfl) hline hs (by rfl)) ?_
  obtain ⟨ds0, e0, q⟩ := q
  obtain ⟨a, o, k1, q1, q2, q3, vs, rfl, r⟩ := E.own i _ e0
  refine ⟨_, k1, .inl ⟨rfl, _, .inl (.inl q3)⟩, ?_⟩
  refine (h.run X g G B H σ env _ Xq E q tk).imp fun v H1 ⟨rv, e1, G1, ⟨d, e2, ds, qf, qe, ql, e3, qs, qn⟩, E1, x1, k1', r1⟩ => ?_
  subst qs
  obtain ⟨G2, x2, E2, r2, k2⟩ := r1.fz E1 qf
  obtain ⟨b, ob, m1, m2, m3, m4, ws, rfl, rr⟩ := E2.own i _ qe
  rw [k1] at m1
  cases m1
  refine ⟨a, ws, v, rfl, rfl, m4, by rw [rr.length]; exact ql, ?_⟩
  exact ⟨_, _, G2, qn, E2.setOwn qe k1 ⟨_, rfl, rr.append (.cons r2 .nil)⟩, x1.trans x2, (k1'.trans k2).trans (keeps_own qe), Rep.non⟩
/-- x.pop() -/
def ePop (i : Nat) : ET := fun env Q _ => ∃ ds d, env[i]? = some (.own (.lst ds)) ∧ ds[ds.length - 1]? = some d ∧ ∃ e', env.set i (.own (.lst ds.dropLast)) = e' ∧ Q (.val d) e'
theorem RepL.dropLast {K : PySem.W.Frag} {w : World} {G : Hp} {vs : List V} {ds : List D} (h : RepL K w G vs ds) : RepL K w G vs.dropLast ds.dropLast := by
  rw [List.dropLast_eq_take, List.dropLast_eq_take, h.length]
  exact h.take _
theorem ve_pop {i : Nat} {x : Str} {p apos : Pos} (hx : VisC c i x) (hline : (apos.endLine == pos.line) = true := by rfl) : VE c (.Call (.Attribute (.Name x p) "pop" apos) [] [] pos) (ePop i) := by
  constructor
  intro X g G B H σ env Q Xq E q tk
  obtain ⟨h1, h2, h3, h4⟩ := hx
  refine TU.of (pe_bm0 PySem.F.plainAttrs_list PySem.F.slot_list_pop PySem.F.type_list_pop mt_pop (pe_var (i := i) (x := x) (by rw [g.N]; exact h1) (by rw [g.scope]; exact h2) h3 h4) (by rfl) hline) ?_
  obtain ⟨ds, d, e0, el, _, rfl, qn⟩ := q
  obtain ⟨a, o, k1, q1, q2, q3, vs, rfl, r⟩ := E.own i _ e0
  obtain ⟨v, hv, rv⟩ := r.get el
  refine ⟨_, k1, .inl ⟨rfl, _, .inl (.inl q3)⟩, a, vs, v, rfl, rfl, q3, by rw [r.length]; exact hv, ?_⟩
  exact ⟨_, _, G, qn, E.setOwn e0 k1 ⟨_, rfl, r.dropLast⟩, Ext.refl _ _, keeps_own e0, rv⟩
/-- x[k] = e -/
def sPut (i : Nat) (tk tv : ET) : STt := fun D env => tv env (fun rv e1 => ∃ d0, e1[i]? = some (.own d0) ∧ tk e1 (fun rk e2 => ∃ dv e3 dk, fz e2 rv.hold = some (dv, e3) ∧ rd e3 rk = some dk ∧ match e3[i]? with
  | some (.own (.dic t kvs)) => keyOk t dk = true ∧ kvs.length < sizeLine ∧ ∃ e4, e3.set i (.own (.dic t (dput kvs dk dv))) = e4 ∧ D.nx e4
  | some (.own (.lst ds)) => ∃ k j, dk = .int k ∧ ixN ds.length k = some j ∧ ∃ e4, e3.set i (.own (.lst (ds.set j dv))) = e4 ∧ D.nx e4
  | _ => False) D.xq) D.xq
def rSetD : TSet := fun o i v H Q => ∃ a H', o = .ref a ∧ DPut H a i v H' ∧ Q H'
theorem set_dict {X : Cx} (hu : X.A.units + 1 < cLine) : PSet X rSetD := by
  intro pins s σ H o i v ov iv u Q I ro ri rv h
  obtain ⟨a, H', rfl, g, q⟩ := h
  obtain rfl : ov = Value.ref a := ro
  exact d_setItem hu I g ri rv fun s' I' => ⟨H', I', q⟩
theorem pset_or {X : Cx} {t u : TSet} (h : PSet X t) (k : PSet X u) : PSet X (fun o i v H Q => t o i v H Q ∨ u o i v H Q) := by
  intro pins s σ H o i v ov iv w Q I ro ri rv q
  rcases q with q | q
  · exact h pins s σ H o i v ov iv w Q I ro ri rv q
  · exact k pins s σ H o i v ov iv w Q I ro ri rv q
theorem vs_put {i : Nat} {x : Str} {p tpos : Pos} {k e : Expr} {tk tv : ET} (hx : VisC c i x) (hv : VE c e tv) (hk : VE c k tk) (hs : ∀ env : PySem.Env, swapsWithSole [.Subscript (.Name x p) k tpos] e pos.line env = pure false := by intros; rfl)
    (ha : ∀ (env : PySem.Env) (v : Value), assign (.Subscript (.Name x p) k tpos) env v = (do
      let ov ← holding [v] (eval (.Name x p) env)
      let iv ← holding [v, ov] (eval k env)
      standAt tpos
      holding [v, ov, iv] (setItem ov iv v)
      release [v, ov, iv] []) := by intros; rfl) : VS1 c (.Assign [.Subscript (.Name x p) k tpos] e pos) (sPut i tk tv) := by
  constructor
  intro X g G B H σ env D E q tk'
  obtain ⟨h1, h2, h3, h4⟩ := hx
  refine TUs.of (ps_asg (pe_tu (e := e)) (pg_sub (pe_var (i := i) (x := x) (by rw [g.N]; exact h1) (by rw [g.scope]; exact h2) h3 h4) (pe_tu (e := k)) (pset_or set_list (set_dict (g.hu))) (ha X.env)) (hs X.env) (by rfl) (by rfl)) ?_
  refine (hv.run X g G B H σ env _ D.xq E q tk').imp fun v H1 ⟨rv, e1, G1, ⟨d0, e0, q1⟩, E1, x1, k1, r1⟩ => ?_
  obtain ⟨G1', x1', E1', p1⟩ := r1.hold E1
  obtain ⟨a, o, m1, m2, m3, m4, m5⟩ := E1'.own i _ e0
  refine ⟨_, m1, ?_⟩
  refine (hk.run X g G1' B H1 σ e1 _ D.xq E1' q1 (takes_up tk' (x1.trans x1') k1)).imp fun kv H2 ⟨rk, e2, G2, ⟨dv, e3, dk, qf, qr, qm⟩, E2, x2, k2, r2⟩ => ?_
  obtain ⟨G2', x2', E2', p2⟩ := r2.hold E2
  obtain ⟨G3, x3, E3, p3, k3⟩ := RepR.fz E2' ((p1.mono (x2.trans x2').1).repR qf) qf
  have rdk : RD c.K c.w H2 G3 kv dk := by
    cases rk with
    | val d =>
      have ed : d = dk := Option.some.inj qr
      subst ed
      exact Rep.rd E3.gh (Rep.mono x3.1 (show Rep c.K c.w G2' kv d from p2))
    | fr d =>
      have ed : d = dk := Option.some.inj qr
      subst ed
      exact Rep.rd E3.gh (Rep.mono x3.1 (show Rep c.K c.w G2' kv d from p2))
    | slot j => exact E3.slot_rd qr p2
  have X3 : Ext B G G3 := (x1.trans x1').trans ((x2.trans x2').trans x3)
  have K3 := (k1.trans k2).trans k3
  split at qm
  · rename_i t kvs q3
    obtain ⟨hk, hl, _, rfl, qn⟩ := qm
    obtain ⟨b, ob, n1, n2, n3, n4, n5⟩ := E3.own i _ q3
    rw [m1] at n1
    cases n1
    have rk' := keyOk_rep hk rdk
    cases t with
    | false =>
      obtain ⟨κ, rfl⟩ := isK_key (d := dk) hk
      obtain ⟨ws, rfl, rr⟩ := n5
      refine .inr ⟨a, _, rfl, by rw [Rep.key rk']; exact DPut.k n4 (by rw [rr.length]; exact hl), ?_⟩
      exact ⟨_, G3, qn, E3.setOwn q3 m1 ⟨_, rfl, rr.put p3⟩, X3, (K3.trans (keeps_own q3)).bors σ⟩
    | true =>
      obtain ⟨κ, rfl⟩ := isKT_keys (d := dk) hk
      obtain ⟨ws, rfl, rr⟩ := n5
      obtain ⟨bk, rfl, hb⟩ := Rep.keys rk'
      refine .inr ⟨a, _, rfl, DPut.t n4 (E3.gh _ _ hb) (by rw [rr.length]; exact hl), ?_⟩
      exact ⟨_, G3, qn, E3.setOwn q3 m1 ⟨_, rfl, rr.put p3⟩, X3, (K3.trans (keeps_own q3)).bors σ⟩
  · rename_i ds q3
    obtain ⟨kk, j, rfl, hj, _, rfl, qn⟩ := qm
    obtain ⟨b, ob, n1, n2, n3, n4, ws, rfl, rr⟩ := E3.own i _ q3
    rw [m1] at n1
    cases n1
    cases rdk
    refine .inl ⟨a, ws, kk, j, rfl, rfl, n4, by rw [rr.length]; exact hj, ?_⟩
    exact ⟨_, G3, qn, E3.setOwn q3 m1 ⟨_, rfl, RepL.set p3 j rr⟩, X3, (K3.trans (keeps_own q3)).bors σ⟩
  · exact qm.elim
end
end VS

namespace VS
open PySem PySem.Spec L2

/-! ### targets -/
abbrev GT := D → Env → (Env → Prop) → Prop
def TUg (X : Cx) (tg : Expr) : TG := fun v σ H Q => ∀ (pins : List (Addr × Obj)) (s : Shared) (u : Value), Inv X pins σ H s → RelV v u →
  wpAny (model X.prog X.w) X.A (assign tg X.env u) (fun _ s' => ∃ σ' H', Inv X pins σ' H' s' ∧ Q σ' H') X.xe s
theorem pg_tu {X : Cx} {tg : Expr} : PG X tg (TUg X tg) := ⟨fun pins s σ H v u Q I r h => h pins s u I r⟩
def TUgs (X : Cx) (ts : List Expr) : TGs := fun vs σ H Q => ∀ (pins : List (Addr × Obj)) (s : Shared) (us : List Value), Inv X pins σ H s → Vals vs us →
  wpAny (model X.prog X.w) X.A (assignInOrder ((assignEach ts X.env).map (·.2)) us) (fun _ s' => ∃ σ' H', Inv X pins σ' H' s' ∧ Q σ' H') X.xe s
theorem pgs_tu {X : Cx} {ts : List Expr} : PGs X ts (TUgs X ts) := ⟨fun pins s σ H v u Q I r h => h pins s u I r⟩
theorem TUg.imp {X : Cx} {tg : Expr} {v : V} {σ : St} {H : Hp} {Q Q' : St → Hp → Prop} (h : TUg X tg v σ H Q) (q : ∀ σ' H', Q σ' H' → Q' σ' H') : TUg X tg v σ H Q' := fun pins s u I r =>
  thn (h pins s u I r) fun _ _ ⟨σ', H', I', z⟩ => ⟨σ', H', I', q σ' H' z⟩
theorem TUgs.imp {X : Cx} {tg : List Expr} {v : List V} {σ : St} {H : Hp} {Q Q' : St → Hp → Prop} (h : TUgs X tg v σ H Q) (q : ∀ σ' H', Q σ' H' → Q' σ' H') : TUgs X tg v σ H Q' := fun pins s u I r =>
  thn (h pins s u I r) fun _ _ ⟨σ', H', I', z⟩ => ⟨σ', H', I', q σ' H' z⟩
/-- the slots beside these are as before -/
def Tch (is : List Nat) (σ σ' : St) : Prop := σ'.length = σ.length ∧ ∀ j, j ∉ is → σ'[j]? = σ[j]?
def GQ (c : Cfg) (G B H : Hp) (σ : St) (env : Env) (is : List Nat) (Q : Env → Prop) : St → Hp → Prop := fun σ' H' => H' = H ∧ Tch is σ σ' ∧ ∃ env', Q env' ∧ RepEnv c G B H σ' env' ∧ BorS env env' σ σ'
structure VG (c : Cfg) (tg : Expr) (is : List Nat) (t : GT) : Prop where
  run : ∀ (X : Cx), Good c X → ∀ (G B H : Hp) (σ : St) (env : Env) (d : D) (v : V) (Q : Env → Prop), RepEnv c G B H σ env → Rep c.K c.w G v d → t d env Q → TUg X tg v σ H (GQ c G B H σ env is Q)
structure VGs (c : Cfg) (tg : List Expr) (is : List Nat) (t : List D → Env → (Env → Prop) → Prop) : Prop where
  run : ∀ (X : Cx), Good c X → ∀ (G B H : Hp) (σ : St) (env : Env) (ds : List D) (vs : List V) (Q : Env → Prop), RepEnv c G B H σ env → RepL c.K c.w G vs ds → t ds env Q → TUgs X tg vs σ H (GQ c G B H σ env is Q)
def gNm (i : Nat) : GT := fun d env Q => ∃ e', env.set i (.val d) = e' ∧ Q e'
def gsNil : List D → Env → (Env → Prop) → Prop := fun ds env Q => ds = [] ∧ Q env
def gsCons (t : GT) (u : List D → Env → (Env → Prop) → Prop) : List D → Env → (Env → Prop) → Prop := fun ds env Q => match ds with
  | d :: ds => t d env fun e => u ds e Q
  | [] => False
def gTp (n : Nat) (t : List D → Env → (Env → Prop) → Prop) : GT := fun d env Q => match d with
  | .tup ds => ds.length = n ∧ t ds env Q
  | .ktup ds => ds.length = n ∧ t ds env Q
  | _ => False
theorem Tch.refl (is : List Nat) (σ : St) : Tch is σ σ := ⟨rfl, fun _ _ => rfl⟩
theorem assignEach_len {env : PySem.Env} : ∀ (es : List Expr), (assignEach es env).length = es.length
  | [] => rfl
  | e :: es => by cases e <;> simp [assignEach, assignEach_len es]
theorem assign_cons {e : Expr} {es : List Expr} {env : PySem.Env} (h : noStar e = true) : assignEach (e :: es) env = (false, assign e env) :: assignEach es env := by
  cases e <;> first | rfl | cases h
theorem assign_nostar {env : PySem.Env} : ∀ {es : List Expr}, es.all noStar = true → (assignEach es env).findIdx? (·.1) = none
  | [], _ => rfl
  | e :: es, h => by
    rw [List.all_cons, Bool.and_eq_true] at h
    rw [assign_cons h.1, List.findIdx?_cons, assign_nostar h.2]
    rfl
section
variable {c : Cfg} {pos : Pos}
theorem vg_name {i : Nat} {x : Str} (hx : StoC c i x) : VG c (.Name x pos) [i] (gNm i) := by
  constructor
  intro X g G B H σ env d v Q E r q pins s u I ru
  obtain ⟨_, rfl, q⟩ := q
  have z := (pg_name (pos := pos) g.nd (i := i) (x := x) (by rw [g.N]; exact hx.1) (by rw [g.scope]; exact hx.2.1) (by rw [g.fn, g.scope]; exact hx.2.2)).run pins s σ H v u (fun σ' H' => σ' = σ.set i (some v) ∧ H' = H) I ru ⟨rfl, rfl⟩
  have hi : i < env.length := by
    rw [← E.len, I.len, g.N]
    exact (List.getElem?_eq_some_iff.mp hx.1).1
  refine thn z fun _ s' ⟨σ', H', I', e1, e2⟩ => ⟨σ', H', I', e2, ?_, env.set i (.val d), q, ?_, ?_⟩
  · subst e1
    exact ⟨List.length_set, fun j hj => List.getElem?_set_ne fun z => hj (by simp [z])⟩
  · subst e1
    exact E.setVal hi r
  · subst e1
    exact bors_set hi fun d h => by cases h
theorem vgs_nil : VGs c [] [] gsNil := by
  constructor
  intro X g G B H σ env ds vs Q E r q pins s us I ru
  obtain ⟨rfl, q⟩ := q
  cases r
  exact pgs_nil.run pins s σ H [] us _ I ru ⟨rfl, rfl, Tch.refl _ _, env, q, E, BorS.refl _ _⟩
theorem vgs_cons {e : Expr} {es : List Expr} {is js : List Nat} {t : GT} {u : List D → Env → (Env → Prop) → Prop} (h1 : VG c e is t) (h2 : VGs c es js u) (hn : noStar e = true := by rfl) : VGs c (e :: es) (is ++ js) (gsCons t u) := by
  constructor
  intro X g G B H σ env ds vs Q E r q pins s us I ru
  cases r with
  | nil => exact False.elim q
  | @cons v vs d ds rv rr =>
  refine (pgs_cons (pg_tu (tg := e)) (pgs_tu (ts := es)) (by rw [assign_cons hn]; rfl)).run pins s σ H _ us _ I ru ⟨v, vs, rfl, ?_⟩
  refine (h1.run X g G B H σ env d v _ E rv q).imp fun σ1 H1 ⟨eh, tc, e1, q1, E1, b1⟩ => ?_
  subst eh
  refine (h2.run X g G B H1 σ1 e1 ds vs Q E1 rr q1).imp fun σ2 H2 ⟨eh, tc2, e2, q2, E2, b2⟩ => ⟨eh, ⟨tc2.1.trans tc.1, fun j hj => ?_⟩, e2, q2, E2, BorS.trans b1 b2⟩
  rw [List.mem_append] at hj
  rw [tc2.2 j fun z => hj (.inr z), tc.2 j fun z => hj (.inl z)]
theorem vg_tup {es : List Expr} {k : Nat} {is : List Nat} {t : List D → Env → (Env → Prop) → Prop} (h : VGs c es is t) (hn : es.all noStar = true := by rfl) (hc : c.calm = true := by rfl) : VG c (.Tuple es k pos) is (gTp es.length t) := by
  constructor
  intro X g G B H σ env d v Q E r q pins s u I ru
  refine (pg_tup (k := k) (pos := pos) (g.calm hc) (pgs_tu (ts := es)) (assignEach_len es) (assign_nostar hn)).run pins s σ H v u _ I ru ?_
  cases d <;> try exact False.elim q
  · cases r with
    | @tup a vs _ hq rr =>
    exact ⟨a, vs, rfl, SqT.of (E.gh _ _ hq), by rw [rr.length]; exact q.1, h.run X g G B H σ env _ vs Q E rr q.2⟩
  · cases r with
    | @ktup a vs _ hq rr =>
    exact ⟨a, vs, rfl, .inr (by rw [g.K]; exact hq), by rw [rr.length]; exact q.1, h.run X g G B H σ env _ vs Q E rr q.2⟩
/-- a, b = e -/
def sAsg (g : GT) (t : ET) : STt := fun D env => t env (fun rv e1 => ∃ d e2, fz e1 rv = some (d, e2) ∧ g d e2 D.nx) D.xq
theorem vs_asg {tg e : Expr} {is : List Nat} {t : ET} {gt : GT} (hg : VG c tg is gt) (h : VE c e t) (hs : ∀ env : PySem.Env, swapsWithSole [tg] e pos.line env = pure false := by intros; rfl) (hw : ∀ env : PySem.Env, swappedStores [tg] e env = pure none := by intros; rfl)
    (hn : noStar tg = true := by rfl) : VS1 c (.Assign [tg] e pos) (sAsg gt t) := by
  constructor
  intro X g G B H σ env D E q tk
  refine TUs.of (ps_asg (pe_tu (e := e)) (pg_tu (tg := tg)) (hs X.env) (hw X.env) (by rw [assign_cons hn]; rfl)) ?_
  refine (h.run X g G B H σ env _ D.xq E q tk).imp fun v H1 ⟨rv, e1, G1, ⟨d, e2, qf, qg⟩, E1, x1, k1, r1⟩ => ?_
  obtain ⟨G2, x2, E2, r2, k2⟩ := r1.fz E1 qf
  refine (hg.run X g G2 B H1 σ e2 d v _ E2 r2 qg).imp fun σ' H' ⟨eh, tc, e3, q3, E3, b3⟩ => ?_
  subst eh
  exact ⟨e3, G2, q3, E3, x1.trans x2, BorS.trans ((k1.trans k2).bors σ) b3⟩

/-! ### while -/
@[irreducible] def WW (t : TTt) (b : STt) (D : EndsD) (env : Env) : Prop := ∃ I : Nat → Env → Prop, (∃ m, I m env) ∧ ∀ m env, I m env →
  t env (fun k e1 => if k = true then b { D with nx := fun e2 => ∃ m', m' < m ∧ I m' e2, ct := fun e2 => ∃ m', m' < m ∧ I m' e2, bk := D.nx } e1 else D.nx e1) D.xq
def sWhile (t : TTt) (b : STt) : STt := fun D env => WW t b D env
theorem WW_eq {t : TTt} {b : STt} {D : EndsD} {env : Env} : WW t b D env = ∃ I : Nat → Env → Prop, (∃ m, I m env) ∧ ∀ m env, I m env →
  t env (fun k e1 => if k = true then b { D with nx := fun e2 => ∃ m', m' < m ∧ I m' e2, ct := fun e2 => ∃ m', m' < m ∧ I m' e2, bk := D.nx } e1 else D.nx e1) D.xq := by unfold WW; rfl
/-- I by a number that falls -/
theorem while_inv {t : TTt} {b : STt} {D : EndsD} {env : Env} (I : Nat → Env → Prop) (m : Nat) (h0 : I m env)
    (step : ∀ m e, I m e → ∀ K : Env → Prop, (∀ m' e', m' < m → I m' e' → K e') → t e (fun k e1 => if k = true then b { D with nx := K, ct := K, bk := D.nx } e1 else D.nx e1) D.xq) : WW t b D env := by
  rw [WW_eq]
  exact ⟨I, ⟨m, h0⟩, fun m e h => step m e h _ fun m' e' hm hi => ⟨m', hm, hi⟩⟩
theorem vs_while {e : Expr} {body : List Stmt} {t : TTt} {b : STt} (ht : VT c e t) (hb : VSs c body b) : VS1 c (.While e body [] pos) (sWhile t b) := by
  constructor
  intro X g G B H σ env D E q tk
  refine TUs.of (ps_while g.po (pt_tu (e := e)) (pss_tu (st := body))) ?_
  have q : WW t b D env := q
  rw [WW_eq] at q
  obtain ⟨I, ⟨m0, i0⟩, turn⟩ := q
  refine ⟨fun m σ' H' => ∃ env' G', I m env' ∧ RepEnv c G' B H' σ' env' ∧ Ext B G G' ∧ BorS env env' σ σ', ⟨m0, env, G, i0, E, Ext.refl _ _, BorS.refl _ _⟩, ?_⟩
  rintro m σ1 H1 ⟨e1, G1, i1, E1, x1, b1⟩
  refine (ht.run X g G1 B H1 σ1 e1 _ D.xq E1 (turn m e1 i1) (takes_ups tk x1 b1)).imp fun k H2 ⟨e2, G2, q2, E2, x2, k2⟩ => ?_
  have X2 := x1.trans x2
  have B2 := BorS.trans b1 (k2.bors σ1)
  cases k with
  | true =>
    rw [if_pos rfl] at q2 ⊢
    refine ⟨fun σ' H' => ∃ m', m' < m ∧ ∃ env' G', I m' env' ∧ RepEnv c G' B H' σ' env' ∧ Ext B G G' ∧ BorS env env' σ σ', fun σ' H' h => h, ?_⟩
    refine TUss.imp ?_ (hb.run X g G2 B H2 σ1 e2 _ E2 q2 (takes_ups tk X2 B2))
    exact ⟨fun σ' H' ⟨e3, G3, ⟨m', hm, i3⟩, E3, x3, b3⟩ => ⟨m', hm, e3, G3, i3, E3, X2.trans x3, BorS.trans B2 b3⟩, fun v H' h => ER.up h X2 B2, fun σ' H' h => EN.up h X2 B2,
      fun σ' H' ⟨e3, G3, ⟨m', hm, i3⟩, E3, x3, b3⟩ => ⟨m', hm, e3, G3, i3, E3, X2.trans x3, BorS.trans B2 b3⟩⟩
  | false =>
    rw [if_neg (by decide)] at q2 ⊢
    exact ⟨e2, G2, q2, E2, X2, B2⟩
end

/-! ### what is walked -/
/-- the iterator J gives these, one by one, as long as what is shared or lent stays -/
structure Walks (c : Cfg) (G B : Hp) (J : It) (ds : List D) : Prop where
  go : ∀ (i : Nat) (d : D) (G' H' : Hp), ds[i]? = some d → Same G' H' → Same B H' → Same G G' → J.go i H' ∧ ∀ x H'', J.yld i H' x H'' → ∃ G'', Res G' H' G'' H'' ∧ Rep c.K c.w G'' x d
  stop : ∀ (G' H' : Hp), Same G' H' → Same B H' → Same G G' → J.stop ds.length H'
/-- the slot whose list is walked is locked meanwhile -/
inductive Lk (c : Cfg) (G B H : Hp) (σ : St) (e1 : Env) : Option Nat → Hp → Env → Prop
  | no : Lk c G B H σ e1 none B e1
  | yes {i : Nat} {a : Addr} {o : HO} {d : D} : e1[i]? = some (.own d) → σ[i]? = some (some (V.ref a)) → G a = none → B a = none → H a = some o → OwnO c.K c.w G d o → Lk c G B H σ e1 (some i) (upd B a o) (e1.set i (.bor d))
def lockE (lk : Option Nat) (env : Env) : Env := match lk with
  | none => env
  | some i => match env[i]? with
    | some (.own d) => env.set i (.bor d)
    | _ => env
def unl (lk : Option Nat) (env : Env) : Env := match lk with
  | none => env
  | some i => match env[i]? with
    | some (.bor d) => env.set i (.own d)
    | _ => env
theorem set_cases {env : Env} {i : Nat} {s : Slot} (hi : i < env.length) {j : Nat} {u : Slot} (e : (env.set i s)[j]? = some u) : (j = i ∧ u = s) ∨ (j ≠ i ∧ env[j]? = some u) := by
  by_cases z : j = i
  · subst z
    rw [List.getElem?_set_self hi] at e
    exact .inl ⟨rfl, (Option.some.inj e).symm⟩
  · rw [List.getElem?_set_ne (Ne.symm z)] at e
    exact .inr ⟨z, e⟩
section
variable {c : Cfg} {G B H B' : Hp} {σ : St} {e1 e1' : Env} {lk : Option Nat}
theorem Lk.env (L : Lk c G B H σ e1 lk B' e1') : e1' = lockE lk e1 := by
  cases L with
  | no => rfl
  | yes h1 _ _ _ _ _ => unfold lockE; simp [h1]
theorem Lk.same (L : Lk c G B H σ e1 lk B' e1') : Same B B' := by
  cases L with
  | no => exact Same.refl _
  | yes h1 _ _ h4 _ _ => exact same_new h4
theorem Lk.ok (E : RepEnv c G B H σ e1) (L : Lk c G B H σ e1 lk B' e1') : RepEnv c G B' H σ e1' := by
  cases L with
  | no => exact E
  | @yes i a o d h1 h2 h3 h4 h5 h6 =>
    have hi : i < e1.length := (List.getElem?_eq_some_iff.mp h1).1
    refine ⟨E.gh, fun b u e => ?_, by rw [List.length_set]; exact E.len, fun j dj e => ?_, fun j dj e => ?_, fun j dj e => ?_, fun j k dj dk b ej ek => ?_⟩
    · by_cases z : b = a
      · subst z
        rw [upd_same] at e
        cases e
        exact h5
      · rw [upd_ne z] at e
        exact E.bh b u e
    · rcases set_cases hi e with ⟨rfl, z⟩ | ⟨ne, e'⟩
      · cases z
      · exact E.val j dj e'
    · rcases set_cases hi e with ⟨rfl, z⟩ | ⟨ne, e'⟩
      · cases z
      · obtain ⟨b, ob, k1, k2, k3, k4, k5⟩ := E.own j dj e'
        have nb : b ≠ a := fun z => ne (E.dis j i dj d a e' h1 (by rw [← z]; exact k1) h2)
        exact ⟨b, ob, k1, k2, by rw [upd_ne nb]; exact k3, k4, k5⟩
    · rcases set_cases hi e with ⟨rfl, z⟩ | ⟨ne, e'⟩
      · cases z
        exact ⟨_, h2, h6.rd upd_same⟩
      · obtain ⟨v, k1, k2⟩ := E.bor j dj e'
        exact ⟨v, k1, k2.mono (same_new h4) (Same.refl _)⟩
    · rcases set_cases hi ej with ⟨rfl, z⟩ | ⟨ne, e'⟩
      · cases z
      · rcases set_cases hi ek with ⟨rfl, z⟩ | ⟨ne', e''⟩
        · cases z
        · exact E.dis j k dj dk b e' e''
theorem Lk.un {G3 H' : Hp} {σ' : St} {e3 : Env} (E : RepEnv c G B H σ e1) (L : Lk c G B H σ e1 lk B' e1') (E3 : RepEnv c G3 B' H' σ' e3) (x : Ext B' G G3) (b : BorS e1' e3 σ σ') :
    RepEnv c G3 B H' σ' (unl lk e3) ∧ Ext B G G3 ∧ BorS e1 (unl lk e3) σ σ' ∧ ∀ v rv, RepR c G3 B' H' σ' e3 v rv → RepR c G3 B H' σ' (unl lk e3) v rv := by
  cases L with
  | no => exact ⟨E3, x, b, fun v rv h => h⟩
  | @yes i a o d h1 h2 h3 h4 h5 h6 =>
    have xB : Ext B G G3 := x.less (same_new h4)
    have hi : i < e1.length := (List.getElem?_eq_some_iff.mp h1).1
    have base : RepEnv c G3 (upd B a o) H' σ' e3 → (∀ di, e3[i]? ≠ some (Slot.bor di)) → RepEnv c G3 B H' σ' e3 := fun E3 no => by
      refine ⟨E3.gh, (same_new h4).trans E3.bh, E3.len, E3.val, fun j dj e => ?_, fun j dj e => ?_, E3.dis⟩
      · obtain ⟨q, oq, k1, k2, k3, k4, k5⟩ := E3.own j dj e
        exact ⟨q, oq, k1, k2, (same_new h4).free k3, k4, k5⟩
      · obtain ⟨b1, b2⟩ := b j dj e
        rcases set_cases hi b1 with ⟨rfl, z⟩ | ⟨ne, e'⟩
        · exact absurd e (no dj)
        · obtain ⟨v, k1, k2⟩ := E.bor j dj e'
          exact ⟨v, by rw [b2]; exact k1, k2.mono (Same.refl _) xB.1⟩
    have bb : ∀ j dj, e3[j]? = some (Slot.bor dj) → j ≠ i → e1[j]? = some (Slot.bor dj) ∧ σ'[j]? = σ[j]? := fun j dj e ne => by
      obtain ⟨b1, b2⟩ := b j dj e
      rcases set_cases hi b1 with ⟨z, _⟩ | ⟨_, e'⟩
      · exact absurd z ne
      · exact ⟨e', b2⟩
    cases q : e3[i]? with
    | none =>
      have eu : unl (some i) e3 = e3 := by unfold unl; simp [q]
      rw [eu]
      refine ⟨base E3 (fun di z => by rw [q] at z; cases z), xB, fun j dj e => ?_, fun v rv h => ?_⟩
      · exact bb j dj e (fun z => by subst z; rw [q] at e; cases e)
      · cases rv with
        | val dv => exact h
        | slot j => exact h
        | fr dv =>
          obtain ⟨p, op, r1, r2, r3, r4, r5, r6⟩ := h
          exact ⟨p, op, r1, r2, (same_new h4).free r3, r4, r5, r6⟩
    | some s =>
      cases s with
      | bor di =>
        obtain ⟨b1, b2⟩ := b i di q
        rw [List.getElem?_set_self hi] at b1
        have edi : d = di := by cases b1; rfl
        subst edi
        have eu : unl (some i) e3 = e3.set i (.own d) := by unfold unl; simp [q]
        rw [eu]
        have hi3 : i < e3.length := (List.getElem?_eq_some_iff.mp q).1
        have es : σ'[i]? = some (some (V.ref a)) := by rw [b2]; exact h2
        have g3 : G3 a = none := x.none h3 ⟨_, upd_same, h6.notTup⟩
        have nown : ∀ j dj, e3[j]? = some (Slot.own dj) → σ'[j]? ≠ some (some (V.ref a)) := fun j dj e z => by
          obtain ⟨q', oq, k1, k2, k3, k4, k5⟩ := E3.own j dj e
          rw [z] at k1
          cases k1
          rw [upd_same] at k3
          cases k3
        refine ⟨⟨E3.gh, (same_new h4).trans E3.bh, by rw [List.length_set]; exact E3.len, fun j dj e => ?_, fun j dj e => ?_, fun j dj e => ?_, fun j k dj dk p ej ek s1 s2 => ?_⟩, xB, fun j dj e => ?_, fun v rv h => ?_⟩
        · rcases set_cases hi3 e with ⟨rfl, z⟩ | ⟨ne, e'⟩
          · cases z
          · exact E3.val j dj e'
        · rcases set_cases hi3 e with ⟨rfl, z⟩ | ⟨ne, e'⟩
          · cases z
            exact ⟨a, o, es, g3, h4, E3.bh _ _ upd_same, h6.mono xB.1⟩
          · obtain ⟨q', oq, k1, k2, k3, k4, k5⟩ := E3.own j dj e'
            exact ⟨q', oq, k1, k2, (same_new h4).free k3, k4, k5⟩
        · rcases set_cases hi3 e with ⟨rfl, z⟩ | ⟨ne, e'⟩
          · cases z
          · obtain ⟨e4, e5⟩ := bb j dj e' ne
            obtain ⟨v, k1, k2⟩ := E.bor j dj e4
            exact ⟨v, by rw [e5]; exact k1, k2.mono (Same.refl _) xB.1⟩
        · rcases set_cases hi3 ej with ⟨rfl, z⟩ | ⟨ne, e'⟩
          · rcases set_cases hi3 ek with ⟨rfl, z'⟩ | ⟨ne', e''⟩
            · rfl
            · rw [es] at s1
              cases s1
              exact absurd s2 (nown k dk e'')
          · rcases set_cases hi3 ek with ⟨rfl, z'⟩ | ⟨ne', e''⟩
            · rw [es] at s2
              cases s2
              exact absurd s1 (nown j dj e')
            · exact E3.dis j k dj dk p e' e'' s1 s2
        · rcases set_cases hi3 e with ⟨rfl, z⟩ | ⟨ne, e'⟩
          · cases z
          · exact bb j dj e' ne
        · cases rv with
          | val dv => exact h
          | slot j =>
            refine ⟨h.1, ?_⟩
            obtain ⟨dj, hj⟩ := h.2
            by_cases z : j = i
            · subst z
              exact ⟨d, by unfold rd; simp [hi3]⟩
            · refine ⟨dj, ?_⟩
              unfold rd at hj ⊢
              simp only [List.getElem?_set_ne (Ne.symm z)] at hj ⊢
              exact hj
          | fr dv =>
            obtain ⟨p, op, r1, r2, r3, r4, r5, r6⟩ := h
            refine ⟨p, op, r1, r2, (same_new h4).free r3, r4, r5, fun j dj ej => ?_⟩
            rcases set_cases hi3 ej with ⟨rfl, z⟩ | ⟨ne, e'⟩
            · rw [es]
              intro z
              cases z
              rw [upd_same] at r3
              cases r3
            · exact r6 j dj e'
      | _ =>
        have eu : unl (some i) e3 = e3 := by unfold unl; simp [q]
        rw [eu]
        refine ⟨base E3 (fun di z => by rw [q] at z; cases z), xB, fun j dj e => ?_, fun v rv h => ?_⟩
        · exact bb j dj e (fun z => by subst z; rw [q] at e; cases e)
        · cases rv with
          | val dv => exact h
          | slot j => exact h
          | fr dv =>
            obtain ⟨p, op, r1, r2, r3, r4, r5, r6⟩ := h
            exact ⟨p, op, r1, r2, (same_new h4).free r3, r4, r5, r6⟩
end
abbrev IT := Env → (List D → Option Nat → Env → Prop) → XQ → Prop
def TUi (X : Cx) (tg iter : Expr) : TI := fun σ H R => ∀ (pins : List (Addr × Obj)) (s : Shared), Inv X pins σ H s →
  wpAny (model X.prog X.w) X.A (eval iter X.env) (fun v s1 => wpAny (model X.prog X.w) X.A (pyIter v) (PIE X pins σ tg R) X.xe s1) X.xe s
theorem pi_tu {X : Cx} {tg iter : Expr} : PI X tg iter (TUi X tg iter) := ⟨fun pins s σ H R I h => h pins s I⟩
def IQ (c : Cfg) (G B : Hp) (σ : St) (env : Env) (Q : List D → Option Nat → Env → Prop) : It → Hp → Prop := fun J H' =>
  ∃ ds lk e1 e1' G' B', Q ds lk e1 ∧ RepEnv c G' B H' σ e1 ∧ Ext B G G' ∧ Keeps env e1 ∧ Lk c G' B H' σ e1 lk B' e1' ∧ Walks c G' B' J ds
structure VI (c : Cfg) (tg iter : Expr) (t : IT) : Prop where
  run : ∀ (X : Cx), Good c X → ∀ (G B H : Hp) (σ : St) (env : Env) (Q : List D → Option Nat → Env → Prop) (Xq : XQ),
  RepEnv c G B H σ env → t env Q Xq → Takes X (WXo c G B σ env Xq) → TUi X tg iter σ H (IQ c G B σ env Q)
theorem TUi.imp {X : Cx} {tg iter : Expr} {σ : St} {H : Hp} {R R' : It → Hp → Prop} (h : TUi X tg iter σ H R) (q : ∀ J H', R J H' → R' J H') : TUi X tg iter σ H R' := fun pins s I =>
  thn (h pins s I) fun v s1 z => thn z fun itv s2 ⟨it, fp, tn, J, H', a, b, c, d, e, f⟩ => ⟨it, fp, tn, J, H', a, b, c, d, e, q J H' f⟩

/-! ### for -/
def wIter (g : GT) (b : STt) (D : EndsD) : List VS.D → Env → Prop
  | [], env => D.nx env
  | d :: ds, env => g d env fun e1 => b { D with nx := wIter g b D ds, ct := wIter g b D ds, bk := D.nx } e1
def unlD (lk : Option Nat) (D : EndsD) : EndsD := { nx := fun e => D.nx (unl lk e), rt := fun r e => D.rt r (unl lk e), bk := fun e => D.bk (unl lk e), ct := fun e => D.ct (unl lk e), xq := fun x e => D.xq x (unl lk e) }
@[irreducible] def WL (g : GT) (b : STt) (D : EndsD) (ds : List VS.D) (env : Env) : Prop := wIter g b D ds env
theorem WL_eq {g : GT} {b : STt} {D : EndsD} {ds : List VS.D} {env : Env} : WL g b D ds env = wIter g b D ds env := by unfold WL; rfl
def sFor (it : IT) (g : GT) (b : STt) : STt := fun D env => it env (fun ds lk e1 => WL g b (unlD lk D) ds (lockE lk e1)) D.xq
section
variable {c : Cfg} {pos : Pos}
theorem vs_for {tg iter : Expr} {body : List Stmt} {is : List Nat} {it : IT} {gt : GT} {b : STt} (hi : VI c tg iter it) (hg : VG c tg is gt) (hb : VSs c body b) (hs : ∀ (env : PySem.Env) (x : Value), foldedSetIterable iter env x = pure x := by intros; rfl) (hc : c.calm = true := by rfl) : VS1 c (.For tg iter body [] pos) (sFor it gt b) := by
  constructor
  intro X g G B H σ env D E q tk
  refine TUs.of (ps_for g.po (g.calm hc) (pi_tu (tg := tg) (iter := iter)) (pg_tu (tg := tg)) (pss_tu (st := body)) (hs X.env)) ?_
  refine (hi.run X g G B H σ env _ D.xq E q tk).imp fun J H1 ⟨ds, lk, e1, e1', G1, B', q1, E1, x1, k1, L, Wk⟩ => ?_
  have L' := L
  have q1 : WL gt b (unlD lk D) ds (lockE lk e1) := q1
  rw [WL_eq] at q1
  rw [← L.env] at q1
  have X0 := x1
  have B0 := k1.bors σ
  -- out of the loop
  have out : ∀ {σ' : St} {H' : Hp} {e3 : Env} {G3 : Hp} {P : Env → Prop}, P (unl lk e3) → RepEnv c G3 B' H' σ' e3 → Ext B' G1 G3 → BorS e1' e3 σ σ' → EN c G B σ env P σ' H' := fun p E3 x3 b3 => by
    obtain ⟨u1, u2, u3, _⟩ := L.un E1 E3 x3 b3
    exact ⟨_, _, p, u1, X0.trans u2, BorS.trans B0 u3⟩
  refine ⟨fun i m σ' H' => m = ds.length - i ∧ i ≤ ds.length ∧ ∃ e3 G3, wIter gt b (unlD lk D) (ds.drop i) e3 ∧ RepEnv c G3 B' H' σ' e3 ∧ Ext B' G1 G3 ∧ BorS e1' e3 σ σ', ⟨ds.length, by simp, Nat.zero_le _, e1', G1, by simpa using q1, L.ok E1, Ext.refl _ _, BorS.refl _ _⟩, ?_⟩
  rintro i m σ' H' ⟨rfl, hl, e3, G3, q3, E3, x3, b3⟩
  by_cases hlt : i < ds.length
  · obtain ⟨w1, w2⟩ := Wk.go i ds[i] G3 H' (List.getElem?_eq_getElem hlt) E3.gh E3.bh x3.1
    refine .inr ⟨w1, fun σ4 H4 => i + 1 ≤ ds.length ∧ ∃ e4 G4, wIter gt b (unlD lk D) (ds.drop (i + 1)) e4 ∧ RepEnv c G4 B' H4 σ4 e4 ∧ Ext B' G1 G4 ∧ BorS e1' e4 σ σ4, fun σ4 H4 h => ⟨ds.length - (i + 1), by omega, rfl, h⟩, fun x H5 y => ?_⟩
    obtain ⟨G5, res, rx⟩ := w2 x H5 y
    rw [List.drop_eq_getElem_cons hlt] at q3
    have E5 := E3.go res
    have x5 := x3.trans (res.ext E3.bh)
    refine (hg.run X g G5 B' H5 σ' e3 ds[i] x _ E5 rx q3).imp fun σ6 H6 ⟨eh, tc, e6, q6, E6, b6⟩ => ?_
    subst eh
    have B6 := BorS.trans b3 b6
    have tk6 : Takes X (WXo c G5 B' σ6 e6 (unlD lk D).xq) := tk.imp fun cls d σ7 H7 ⟨xd, e7, G7, q7, E7, x7, b7, r7⟩ => by
      obtain ⟨u1, u2, u3, _⟩ := L.un E1 E7 (x5.trans x7) (BorS.trans B6 b7)
      exact ⟨xd, _, G7, q7, u1, X0.trans u2, BorS.trans B0 u3, r7⟩
    refine TUss.imp ?_ (hb.run X g G5 B' H6 σ6 e6 _ E6 q6 tk6)
    have nx : ∀ σ7 H7, EN c G5 B' σ6 e6 (wIter gt b (unlD lk D) (ds.drop (i + 1))) σ7 H7 → i + 1 ≤ ds.length ∧ ∃ e4 G4, wIter gt b (unlD lk D) (ds.drop (i + 1)) e4 ∧ RepEnv c G4 B' H7 σ7 e4 ∧ Ext B' G1 G4 ∧ BorS e1' e4 σ σ7 :=
      fun σ7 H7 ⟨e7, G7, q7, E7, x7, b7⟩ => ⟨hlt, e7, G7, q7, E7, x5.trans x7, BorS.trans B6 b7⟩
    refine ⟨nx, fun v H7 ⟨rv, e7, G7, σ7, q7, E7, x7, b7, r7⟩ => ?_, fun σ7 H7 ⟨e7, G7, q7, E7, x7, b7⟩ => out q7 E7 (x5.trans x7) (BorS.trans B6 b7), nx⟩
    obtain ⟨u1, u2, u3, u4⟩ := L.un E1 E7 (x5.trans x7) (BorS.trans B6 b7)
    exact ⟨rv, _, G7, σ7, q7, u1, X0.trans u2, BorS.trans B0 u3, u4 v rv r7⟩
  · have e : i = ds.length := by omega
    subst e
    refine .inl ⟨Wk.stop G3 H' E3.gh E3.bh x3.1, ?_⟩
    rw [List.drop_length] at q3
    exact out q3 E3 x3 b3
end
end VS

namespace VS
open PySem PySem.Spec L2

/-! ### iterables -/
def signs (x : Str) : List D := x.cps.toList.map fun ch => .str ⟨#[ch]⟩
/-- by a value: what is walked of it -/
def seqOf : D → Option (List D)
  | .lst ds => some ds
  | .tup ds => some ds
  | .ktup ds => some ds
  | .str x => some (signs x)
  | _ => none
def itR (rv : RV) (e1 : Env) (Q : List D → Option Nat → Env → Prop) : Prop := match rv with
  | .val d => ∃ ds, seqOf d = some ds ∧ Q ds none e1
  | .fr (.lst ds) => Q ds none e1
  | .slot i => match e1[i]? with
    | some (.own (.lst ds)) => Q ds (some i) e1
    | some (.bor (.lst ds)) => Q ds none e1
    | some (.val d) => ∃ ds, seqOf d = some ds ∧ Q ds none e1
    | _ => False
  | _ => False
def iSeq (t : ET) : IT := fun env Q Xq => t env (fun rv e1 => itR rv e1 Q) Xq
section
variable {c : Cfg} {G B : Hp}
theorem walks_list {K : PySem.W.Frag} (hK : K = c.K) {a : Addr} {vs : List V} {ds : List D} (r : RepL c.K c.w G vs ds) (h : ∀ H', Same B H' → (∀ G', Same G G' → Same G' H' → SqL c.K H' a vs)) : Walks c G B (Itl K a) ds := by
  subst hK
  refine ⟨fun i d G' H' e s1 s2 s3 => ?_, fun G' H' s1 s2 s3 => ⟨vs, h H' s2 G' s3 s1, by rw [r.length]; exact Nat.le_refl _⟩⟩
  obtain ⟨v, hv, rv⟩ := r.get e
  refine ⟨⟨vs, v, h H' s2 G' s3 s1, hv⟩, fun x H'' y => ?_⟩
  obtain ⟨e2, y⟩ := y
  have := y vs (h H' s2 G' s3 s1)
  rw [hv] at this
  cases this
  subst e2
  exact ⟨G', Res.refl s1, rv.mono s3⟩
theorem walks_tup {K : PySem.W.Frag} (hK : K = c.K) {a : Addr} {vs : List V} {ds : List D} (r : RepL c.K c.w G vs ds) (h : ∀ H', (∀ G', Same G G' → Same G' H' → SqT c.K H' a vs)) : Walks c G B (Itt K a) ds := by
  subst hK
  refine ⟨fun i d G' H' e s1 s2 s3 => ?_, fun G' H' s1 s2 s3 => ⟨vs, h H' G' s3 s1, by rw [r.length]; exact Nat.le_refl _⟩⟩
  obtain ⟨v, hv, rv⟩ := r.get e
  refine ⟨⟨vs, v, h H' G' s3 s1, hv⟩, fun x H'' y => ?_⟩
  obtain ⟨e2, y⟩ := y
  have := y vs (h H' G' s3 s1)
  rw [hv] at this
  cases this
  subst e2
  exact ⟨G', Res.refl s1, rv.mono s3⟩
theorem walks_str {x : Str} : Walks c G B (Its x) (signs x) := by
  refine ⟨fun i d G' H' e s1 s2 s3 => ?_, fun G' H' s1 s2 s3 => ?_⟩
  · unfold signs at e
    rw [List.getElem?_map] at e
    cases q : x.cps.toList[i]? with
    | none => rw [q] at e; cases e
    | some ch =>
      rw [q] at e
      cases e
      have hi : i < x.cps.size := by simpa using (List.getElem?_eq_some_iff.mp q).1
      refine ⟨hi, fun y H'' z => ?_⟩
      obtain ⟨e1, ch', h1, rfl⟩ := z
      subst e1
      have : ch' = ch := by
        have h2 : x.cps.toList[i]? = some ch' := by simpa using h1
        rw [q] at h2
        exact (Option.some.inj h2).symm
      subst this
      exact ⟨G', Res.refl s1, .str _⟩
  · show x.cps.size ≤ (signs x).length
    simp [signs]
/-- a value is walked -/
def PIv (X : Cx) (tg : Expr) (x : V) (J : It) (H : Hp) : Prop := ∀ (pins : List (Addr × Obj)) (s : Shared) (σ : St) (v : Value) (R : It → Hp → Prop), Inv X pins σ H s → RelV x v → R J H → wpAny (model X.prog X.w) X.A (pyIter v) (PIE X pins σ tg R) X.xe s
theorem piv_list {X : Cx} {tg : Expr} {a : Addr} {xs : List V} {H : Hp} (hq : SqL X.K H a xs) : PIv X tg (.ref a) (Itl X.K a) H := by
  intro pins s1 σ v R I1 r1 q
  cases r1
  obtain ⟨its, rv, p, hz⟩ := I1.list hq
  refine wpAny_pyIter_list p.isList ?_
  refine ⟨s1.heap.objs.size, [s1.heap.objs.size], _, _, H, rfl, I1.kept (t' := s1.toks) fun b o e => Heap.get?_push_of_some _ e, turn_list a _, ⟨_, Heap.get?_push_size _ rfl, rfl, rfl⟩, fun b hb => ?_, q⟩
  have e : b = s1.heap.objs.size := by simpa using hb
  subst e
  exact I1.fpOk (Nat.le_refl _) (I1.hok.fresh (Nat.le_refl _))
theorem piv_tup {X : Cx} {tg : Expr} {a : Addr} {xs : List V} {H : Hp} (hq : SqT X.K H a xs) : PIv X tg (.ref a) (Itt X.K a) H := by
  intro pins s1 σ v R I1 r1 q
  cases r1
  obtain ⟨its, rv, p, hz⟩ := I1.tuple hq
  refine wpAny_pyIter_tuple (show s1.heap.IsTuple a its.toArray from p) ?_
  refine ⟨s1.heap.objs.size, [s1.heap.objs.size], _, _, H, rfl, I1.kept (t' := s1.toks) fun b o e => Heap.get?_push_of_some _ e, turn_tuple a _, ⟨_, Heap.get?_push_size _ rfl, rfl, rfl⟩, fun b hb => ?_, q⟩
  have e : b = s1.heap.objs.size := by simpa using hb
  subst e
  exact I1.fpOk (Nat.le_refl _) (I1.hok.fresh (Nat.le_refl _))
theorem piv_str {X : Cx} {tg : Expr} {x : Str} {H : Hp} : PIv X tg (.str x) (Its x) H := by
  intro pins s1 σ v R I1 r1 q
  obtain ⟨t, rfl⟩ := r1
  cases ha : x.cps.all (· < 128)
  · exact wpAny_pyIter_wide ha (pi_one (tk := s1.toks) I1 _ (turn_str _ x t "str_iterator" (.inr rfl)) ⟨_, Heap.get?_push_size _ rfl, rfl, rfl⟩ q)
  · exact wpAny_pyIter_ascii ha (pi_one (tk := s1.toks) I1 _ (turn_str _ x t "str_ascii_iterator" (.inl rfl)) ⟨_, Heap.get?_push_size _ rfl, rfl, rfl⟩ q)
theorem walk_rep {X : Cx} {tg : Expr} (g : Good c X) {H : Hp} {v : V} {d : D} {ds : List D} (gh : Same G H) (r : Rep c.K c.w G v d) (e : seqOf d = some ds) : ∃ J, PIv X tg v J H ∧ Walks c G B J ds := by
  cases d <;> try (simp [seqOf] at e; done)
  · cases r
    cases e
    exact ⟨_, piv_str, walks_str⟩
  · cases e
    cases r with
    | @tup a vs _ hq rr => exact ⟨_, piv_tup (xs := vs) (SqT.of (gh _ _ hq)), walks_tup g.K rr fun H' G' s1 s2 => SqT.of (s2 _ _ (s1 _ _ hq))⟩
  · cases e
    cases r with
    | @lst a vs _ hq rr => exact ⟨_, piv_list (xs := vs) (.inl (.inl (gh _ _ hq))), walks_list g.K rr fun H' _ G' s1 s2 => .inl (.inl (s2 _ _ (s1 _ _ hq)))⟩
  · cases e
    cases r with
    | @ktup a vs _ hq rr => exact ⟨_, piv_tup (xs := vs) (.inr (by rw [g.K]; exact hq)), walks_tup g.K rr fun H' G' s1 s2 => .inr hq⟩
theorem vi_seq {tg e : Expr} {t : ET} (h : VE c e t) : VI c tg e (iSeq t) := by
  constructor
  intro X g G B H σ env Q Xq E q tk pins s I
  refine thn ((h.run X g G B H σ env _ Xq E q tk) pins s I) fun u s1 ⟨v, H1, I1, ru, rv, e1, G1, q1, E1, x1, k1, r1⟩ => ?_
  have fin : ∀ {J : It} {ds : List D} {lk : Option Nat} {G2 B' : Hp} {e1' : Env}, Q ds lk e1 → RepEnv c G2 B H1 σ e1 → Ext B G1 G2 → Lk c G2 B H1 σ e1 lk B' e1' → Walks c G2 B' J ds → PIv X tg v J H1 → wpAny (model X.prog X.w) X.A (pyIter u) (PIE X pins σ tg (IQ c G B σ env Q)) X.xe s1 :=
    fun q E x L W P => P pins s1 σ u _ I1 ru ⟨_, _, e1, _, _, _, q, E, x1.trans x, k1, L, W⟩
  cases rv with
  | val d =>
    obtain ⟨ds, es, q1⟩ := q1
    obtain ⟨J, P, W⟩ := walk_rep (B := B) (tg := tg) g E1.gh r1 es
    exact fin q1 E1 (Ext.refl _ _) .no W P
  | fr d =>
    cases d <;> try exact False.elim q1
    rename_i ds
    obtain ⟨G2, x2, E2, r2⟩ := RepR.hold E1 r1
    obtain ⟨J, P, W⟩ := walk_rep (B := B) (tg := tg) (d := .lst ds) g E2.gh r2 rfl
    exact fin q1 E2 x2 .no W P
  | slot i =>
    unfold itR at q1
    simp only at q1
    split at q1
    · rename_i ds ei
      obtain ⟨a, o, m1, m2, m3, m4, vs, rfl, rr⟩ := E1.own i _ ei
      have k0 := r1.1
      rw [m1] at k0
      have ev : V.ref a = v := Option.some.inj (Option.some.inj k0)
      subst ev
      refine fin q1 E1 (Ext.refl _ _) (.yes ei m1 m2 m3 m4 ⟨vs, rfl, rr⟩) ?_ (piv_list (xs := vs) (.inl (.inl m4)))
      exact walks_list g.K rr fun H' s _ _ _ => .inl (.inl (s _ _ upd_same))
    · rename_i ds ei
      obtain ⟨v', m1, a, vs, rfl, hq, rr⟩ := E1.bor i _ ei
      have k0 := r1.1
      rw [m1] at k0
      have ev : V.ref a = v := Option.some.inj (Option.some.inj k0)
      subst ev
      exact fin q1 E1 (Ext.refl _ _) .no (walks_list g.K rr fun H' s _ _ _ => s.seq hq) (piv_list (xs := vs) (by rw [g.K]; exact E1.bh.seq hq))
    · rename_i d ei
      obtain ⟨ds, es, q1⟩ := q1
      obtain ⟨v', m1, rr⟩ := E1.val i _ ei
      have k0 := r1.1
      rw [m1] at k0
      have ev : v' = v := Option.some.inj (Option.some.inj k0)
      subst ev
      obtain ⟨J, P, W⟩ := walk_rep (B := B) (tg := tg) g E1.gh rr es
      exact fin q1 E1 (Ext.refl _ _) .no W P
    · exact q1.elim
/-! range -/
def rgD (lo : Int) (n : Nat) : List D := (List.range n).map fun i => .int (lo + (i : Nat))
def iRg1 (ta : AT) : IT := fun env Q Xq => ta env (fun rs e1 => ∃ j, rs = [.val (.int j)] ∧ -(2 ^ 62) ≤ j ∧ j < 2 ^ 62 ∧ Q (rgD 0 j.toNat) none e1) Xq
def iRg2 (ta : AT) : IT := fun env Q Xq => ta env (fun rs e1 => ∃ i j, rs = [.val (.int i), .val (.int j)] ∧ (-(2 ^ 62) ≤ i ∧ i < 2 ^ 62 ∧ -(2 ^ 62) ≤ j ∧ j < 2 ^ 62) ∧ Q (rgD i (j - i).toNat) none e1) Xq
theorem walks_rg {lo : Int} {n : Nat} : Walks c G B (Itr lo n) (rgD lo n) := by
  refine ⟨fun i d G' H' e s1 s2 s3 => ?_, fun G' H' s1 s2 s3 => ?_⟩
  · unfold rgD at e
    rw [List.getElem?_map] at e
    cases q : (List.range n)[i]? with
    | none => rw [q] at e; cases e
    | some k =>
      rw [q] at e
      cases e
      obtain ⟨h1, h2⟩ := List.getElem?_eq_some_iff.mp q
      rw [List.length_range] at h1
      rw [List.getElem_range] at h2
      subst h2
      refine ⟨h1, fun x H'' y => ?_⟩
      obtain ⟨e1, rfl⟩ := y
      subst e1
      exact ⟨G', Res.refl s1, .int _⟩
  · show n ≤ (rgD lo n).length
    simp [rgD]
theorem vi_rg1 {tg a : Expr} {ta : AT} {p pos : Pos} (b : BltC c "range" (.type "range")) (ha : VA c [a] ta) (hn : noStar a = true := by rfl) : VI c tg (.Call (.Name "range" p) [a] [] pos) (iRg1 ta) := by
  constructor
  intro X g G B H σ env Q Xq E q tk pins s I
  refine (pi_range1 (tg := tg) (p := p) (pos := pos) (b.gl.gl g) (by rw [g.mg]; exact b.mg) (pa_tu (es := [a])) (star_cons hn)).run pins s σ H _ I ?_
  refine (ha.run X g G B H σ env _ Xq E q tk).imp fun vs H1 ⟨rs, e1, G1, ⟨j, er, h1, h2, q1⟩, E1, x1, k1, r1⟩ => ?_
  subst er
  cases r1 with
  | cons h r =>
  cases r
  cases (show Rep c.K c.w G1 _ (.int j) from h)
  exact ⟨j, rfl, h1, h2, _, none, e1, e1, G1, B, q1, E1, x1, k1, .no, walks_rg⟩
end

/-! ### defs -/
abbrev FSp := List D → (RV → Prop) → (XD → Prop) → Prop
/-- how arguments are handed in: lent to be read (true), or shared -/
inductive ArgsR (K : PySem.W.Frag) (w : World) (G H : Hp) : List Bool → List V → List D → Prop
  | nil : ArgsR K w G H [] [] []
  | bor {ms : List Bool} {v : V} {vs : List V} {d : D} {ds : List D} : RD K w H G v d → ArgsR K w G H ms vs ds → ArgsR K w G H (true :: ms) (v :: vs) (d :: ds)
  | val {ms : List Bool} {v : V} {vs : List V} {d : D} {ds : List D} : Rep K w G v d → ArgsR K w G H ms vs ds → ArgsR K w G H (false :: ms) (v :: vs) (d :: ds)
theorem ArgsR.mono {K : PySem.W.Frag} {w : World} {G G' H : Hp} (s : Same G G') : ∀ {ms : List Bool} {vs : List V} {ds : List D}, ArgsR K w G H ms vs ds → ArgsR K w G' H ms vs ds
  | _, _, _, .nil => .nil
  | _, _, _, .bor h r => .bor (h.mono (Same.refl _) s) (ArgsR.mono s r)
  | _, _, _, .val h r => .val (h.mono s) (ArgsR.mono s r)
def XFin (c : Cfg) (G H : Hp) (Xp : XD → Prop) (E : XK) : Prop := ∀ x cls dx G' H', Xp x → Res G H G' H' → RepX c G' H' cls dx x → E cls dx H'
def spV (c : Cfg) (ms : List Bool) (F : FSp) : Sp := fun vs H Q E => ∃ G ds P Xp, Same G H ∧ ArgsR c.K c.w G H ms vs ds ∧ F ds P Xp ∧ Fin c G H P Q ∧ XFin c G H Xp E
structure FnC (c : Cfg) (x : Str) (ms : List Bool) (F : FSp) : Prop where
  ex : ∃ f fd ps, FnOk c.P c.w c.K c.mg c.base (L2.CX c.P c.w) c.k f fd ps (spV c ms F) ∧ c.mg x = some (.ref f) ∧ PySem.W.keepIn c.K (.ref f) = true ∧ Binds c.K fd ps []
def argsE : List Bool → Env → List RV → Option (List D × Env)
  | [], env, [] => some ([], env)
  | true :: ms, env, r :: rs => match rd env r with
    | some d => match argsE ms env rs with
      | some (ds, e) => some (d :: ds, e)
      | none => none
    | none => none
  | false :: ms, env, r :: rs => match fz env r with
    | some (d, e1) => match argsE ms e1 rs with
      | some (ds, e) => some (d :: ds, e)
      | none => none
    | none => none
  | _, _, _ => none
def eCall (ms : List Bool) (F : FSp) (ta : AT) : ET := fun env Q Xq => ta env (fun rs e1 => ∃ ds e2, argsE ms e1 rs = some (ds, e2) ∧ F ds (fun r => Q r e2) (fun x => Xq x e2)) Xq
section
variable {c : Cfg} {pos p : Pos}
theorem RepEnv.args {B H : Hp} {σ : St} : ∀ {ms : List Bool} {G : Hp} {vs : List V} {rs : List RV} {env : Env} {ds : List D} {env' : Env}, RepEnv c G B H σ env → RepHs c G σ vs rs → argsE ms env rs = some (ds, env') →
    ∃ G', Ext B G G' ∧ RepEnv c G' B H σ env' ∧ ArgsR c.K c.w G' H ms vs ds ∧ Keeps env env'
  | [], G, _, _, _, _, _, E, .nil, e => by
    cases e
    exact ⟨G, Ext.refl _ _, E, .nil, Keeps.refl _⟩
  | [], G, _, _, _, _, _, E, .cons _ _, e => by cases e
  | true :: ms, G, _, _, _, _, _, E, .nil, e => by cases e
  | false :: ms, G, _, _, _, _, _, E, .nil, e => by cases e
  | true :: ms, G, _, _, _, _, _, E, .cons h r, e => by
    unfold argsE at e
    split at e
    · rename_i d q1
      split at e
      · rename_i ds e2 q2
        cases e
        obtain ⟨G2, x2, E2, r2, k2⟩ := RepEnv.args E r q2
        exact ⟨G2, x2, E2, .bor ((E.rdH h q1).mono (Same.refl _) x2.1) r2, k2⟩
      · cases e
    · cases e
  | false :: ms, G, _, _, _, _, _, E, .cons h r, e => by
    unfold argsE at e
    split at e
    · rename_i d e1 q1
      split at e
      · rename_i ds e2 q2
        cases e
        obtain ⟨G1, x1, E1, r1, k1⟩ := RepR.fz (B := B) (H := H) E (h.repR q1) q1
        obtain ⟨G2, x2, E2, r2, k2⟩ := RepEnv.args E1 (r.mono x1.1) q2
        exact ⟨G2, x1.trans x2, E2, .val (r1.mono x2.1) r2, k1.trans k2⟩
      · cases e
    · cases e
theorem ve_call {x : Str} {ms : List Bool} {F : FSp} {e : Expr} {es : List Expr} {ta : AT} (f : FnC c x ms F) (hg : GlC c x) (ha : VA c (e :: es) ta) (hdb : (x == ("__debug__" : Str)) = false := by decide) (hn : (e :: es).all noStar = true := by rfl) (hc : c.calm = true := by rfl) : VE c (.Call (.Name x p) (e :: es) [] pos) (eCall ms F ta) := by
  constructor
  intro X g G B H σ env Q Xq E q tk
  obtain ⟨fa, fd, ps, h, hm, hk, hb⟩ := f.ex
  have hn2 : noStar e = true ∧ es.all noStar = true := by
    rw [List.all_cons, Bool.and_eq_true] at hn
    exact hn
  rw [← g.prog, ← g.w, ← g.K, ← g.mg, ← g.base] at h
  refine TU.of (pe_callS (E := WE (WXo c G B σ env Xq)) (sp := spV c ms F) h (g.room hc) (hg.gl g) (by rw [g.mg]; exact hm) (by rw [g.K]; exact hk) (by rw [g.K]; exact hb) (fun σ' => passAt tk σ') (pa_tu (es := e :: es)) hdb (star_cons hn2.1) (noStars hn2.2)) ?_
  refine (ha.run X g G B H σ env _ Xq E q tk).imp fun vs H1 ⟨rs, e1, G1, ⟨ds, e2, q1, qF⟩, E1, x1, k1, r1⟩ => ?_
  obtain ⟨G2, x2, E2, r2, k2⟩ := E1.args r1 q1
  refine ⟨G2, ds, _, _, E2.gh, r2, qF, fun rv v G' H' pq res rr => ?_, fun x cls dx G' H' pq res rx => ?_⟩
  · exact ⟨rv, e2, G', pq, E2.go res, (x1.trans x2).trans (res.ext E2.bh), k1.trans k2, E2.goR res rr⟩
  · exact ⟨x, e2, G', pq, E2.go res, (x1.trans x2).trans (res.ext E2.bh), (k1.trans k2).bors σ, rx⟩
/-- the value that is handed back -/
def retV (env : Env) : RV → Option RV
  | .val d => some (.val d)
  | .fr d => some (.fr d)
  | .slot i => match env[i]? with
    | some (.own d) => some (.fr d)
    | some (.val d) => some (.val d)
    | _ => none
def bodyE (P : RV → Prop) (Xp : XD → Prop) : EndsD := { nx := fun _ => P (.val .non), rt := fun rv env => ∃ r, retV env rv = some r ∧ P r, bk := fun _ => False, ct := fun _ => False, xq := fun x _ => Xp x }
def argS : List Bool → List D → Env
  | true :: ms, d :: ds => .bor d :: argS ms ds
  | false :: ms, d :: ds => .val d :: argS ms ds
  | _, _ => []
def startE (ms : List Bool) (ds : List D) (n : Nat) : Env := argS ms ds ++ List.replicate (n - ds.length) .emp
theorem ArgsR.len {G H : Hp} : ∀ {ms : List Bool} {vs : List V} {ds : List D}, ArgsR c.K c.w G H ms vs ds → vs.length = ds.length ∧ (argS ms ds).length = ds.length ∧ ms.length = ds.length
  | _, _, _, .nil => ⟨rfl, rfl, rfl⟩
  | _, _, _, .bor h r => by
    have := ArgsR.len r
    simp only [List.length_cons, argS]
    omega
  | _, _, _, .val h r => by
    have := ArgsR.len r
    simp only [List.length_cons, argS]
    omega
theorem ArgsR.get {G H : Hp} : ∀ {ms : List Bool} {vs : List V} {ds : List D} {i : Nat} {s : Slot}, ArgsR c.K c.w G H ms vs ds → (argS ms ds)[i]? = some s →
    ∃ v d, vs[i]? = some v ∧ ((s = .bor d ∧ RD c.K c.w H G v d) ∨ (s = .val d ∧ Rep c.K c.w G v d))
  | _, _, _, _, _, .nil, e => by simp [argS] at e
  | _, _, _, 0, _, .bor h r, e => by
    simp [argS] at e
    exact ⟨_, _, rfl, .inl ⟨e.symm, h⟩⟩
  | _, _, _, 0, _, .val h r, e => by
    simp [argS] at e
    exact ⟨_, _, rfl, .inr ⟨e.symm, h⟩⟩
  | _, _, _, i + 1, _, .bor h r, e => by
    simp [argS] at e
    obtain ⟨v, d, h1, h2⟩ := ArgsR.get r e
    exact ⟨v, d, by simpa using h1, h2⟩
  | _, _, _, i + 1, _, .val h r, e => by
    simp [argS] at e
    obtain ⟨v, d, h1, h2⟩ := ArgsR.get r e
    exact ⟨v, d, by simpa using h1, h2⟩
theorem start_env {G H : Hp} {ms : List Bool} {vs : List V} {ds : List D} {N : List Str} (s : Same G H) (r : ArgsR c.K c.w G H ms vs ds) (hl : vs.length ≤ N.length) : RepEnv c G H H (L2.start N vs) (startE ms ds N.length) := by
  obtain ⟨l1, l2, _⟩ := r.len
  have all : ∀ {i : Nat} {u : Slot}, (startE ms ds N.length)[i]? = some u → u = .emp ∨ ∃ v d, (L2.start N vs)[i]? = some (some v) ∧ ((u = .bor d ∧ RD c.K c.w H G v d) ∨ (u = .val d ∧ Rep c.K c.w G v d)) := fun {i u} e => by
    unfold startE at e
    by_cases hi : i < (argS ms ds).length
    · rw [List.getElem?_append_left hi] at e
      obtain ⟨v, d, h1, h2⟩ := r.get e
      refine .inr ⟨v, d, ?_, h2⟩
      unfold L2.start
      rw [List.getElem?_append_left (by simp; omega), List.getElem?_map, h1]
      rfl
    · rw [List.getElem?_append_right (by omega), List.getElem?_replicate] at e
      split at e
      · exact .inl (Option.some.inj e).symm
      · cases e
  refine ⟨s, Same.refl _, ?_, fun i d e => ?_, fun i d e => ?_, fun i d e => ?_, fun i j d d' a e => ?_⟩
  · unfold L2.start startE
    simp only [List.length_append, List.length_map, List.length_replicate]
    omega
  · rcases all e with z | ⟨v, d', h1, ⟨z, _⟩ | ⟨z, h2⟩⟩
    · cases z
    · cases z
    · cases z
      exact ⟨v, h1, h2⟩
  · rcases all e with z | ⟨v, d', h1, ⟨z, _⟩ | ⟨z, h2⟩⟩
    · cases z
    · cases z
    · cases z
  · rcases all e with z | ⟨v, d', h1, ⟨z, h2⟩ | ⟨z, _⟩⟩
    · cases z
    · cases z
      exact ⟨v, h1, h2⟩
    · cases z
  · rcases all e with z | ⟨v, d', h1, ⟨z, h2⟩ | ⟨z, _⟩⟩
    · cases z
    · cases z
    · cases z
/-- within a def -/
def Cfg.inn (c : Cfg) (k : Nat) (N : List Str) (sc : Scope) : Cfg := { c with k := k, N := N, scope := sc, fn := fun _ => true, top := true, calm := true }
def Cfg.lv (c : Cfg) (k : Nat) : Cfg := { c with k := k }
/-- THE RULE for a def -/
theorem fn_ok {x qual : Str} {st : Stmt} {f : Addr} {fd : FuncData} {N ps : List Str} {k : Nat} {ms : List Bool} {F : FSp} {t : STt} (Fu : Fun c.K x qual st f fd) (S : FnScope N ps (defScope st)) (hl : ms.length = ps.length)
    (hb : VSs (c.inn k N (defScope st)) (defBody st) t) (hF : ∀ ds P Xp, ds.length = ms.length → F ds P Xp → t (bodyE P Xp) (startE ms ds N.length)) : FnOk c.P c.w c.K c.mg c.base (L2.CX c.P c.w) (k + 1) f fd ps (spV c ms F) := by
  refine Fu.okX S (fun vs H Q E h => ?_) (fun cdv A outer s H vs Q E hr h => ?_)
  · obtain ⟨G, ds, P, Xp, _, r, _⟩ := h
    have := r.len
    omega
  · obtain ⟨G, ds, P, Xp, sg, r, q, fin, xfin⟩ := h
    obtain ⟨l1, l2, l3⟩ := r.len
    have hpl : ps.length ≤ N.length := by have := congrArg List.length S.pre; rw [List.length_take] at this; omega
    have E0 := start_env (N := N) sg r (by omega)
    have E0' : RepEnv (c.inn k N (defScope st)) G H H (L2.start N vs) (startE ms ds N.length) := ⟨E0.gh, E0.bh, E0.len, E0.val, E0.own, E0.bor, E0.dis⟩
    refine ⟨TUss _ (defBody st), pss_tu, ?_⟩
    have g : Good (c.inn k N (defScope st)) (cxOf (L2.CX c.P c.w) c.P c.w c.K c.mg c.base N qual (defScope st) f cdv A outer s H E) := ⟨rfl, rfl, rfl, rfl, rfl, rfl, S.nd, rfl, rfl, L2H.roomH_of hr, (fun _ => ⟨rfl, hr.hd⟩), passes_of rfl, fun _ => ⟨rfl, rfl, rfl⟩⟩
    have res : ∀ {G' H' : Hp} {σ' : St} {env' : Env}, RepEnv (c.inn k N (defScope st)) G' H H' σ' env' → Ext H G G' → Res G H G' H' := fun E' x' => ⟨E'.bh, x'.1, E'.gh, x'.2⟩
    have tk : Takes (cxOf (L2.CX c.P c.w) c.P c.w c.K c.mg c.base N qual (defScope st) f cdv A outer s H E) (WXo (c.inn k N (defScope st)) G H (L2.start N vs) (startE ms ds N.length) (bodyE P Xp).xq) :=
      (takes_of (E := E) rfl rfl rfl rfl).imp fun cls d σ' H' ⟨xd, env', G', q', E', x', b', r'⟩ => xfin xd cls d G' H' q' (res E' x') r'
    refine TUss.imp ?_ (hb.run _ g G H H (L2.start N vs) (startE ms ds N.length) (bodyE P Xp) E0' (hF ds P Xp (by omega) q) tk)
    refine ⟨fun σ' H' ⟨env', G', q', E', x', b'⟩ => fin _ .non G' H' q' (res E' x') .non, fun v H' ⟨rv, env', G', σ', ⟨rr, q', p'⟩, E', x', b', r'⟩ => ?_, fun σ' H' ⟨env', G', q', _⟩ => q'.elim, fun σ' H' ⟨env', G', q', _⟩ => q'.elim⟩
    have R := res E' x'
    cases rv with
    | val d =>
      cases q'
      exact fin _ v G' H' p' R r'
    | fr d =>
      cases q'
      obtain ⟨a, o, rfl, h1, h2, h3, h4, h5⟩ := r'
      exact fin _ _ G' H' p' R ⟨a, o, rfl, h2, h1, h3, h4⟩
    | slot i =>
      unfold retV at q'
      simp only at q'
      split at q'
      · rename_i d ei
        cases q'
        obtain ⟨a, o, m1, m2, m3, m4, m5⟩ := E'.own i _ ei
        have k0 := r'.1
        rw [m1] at k0
        have ev : V.ref a = v := Option.some.inj (Option.some.inj k0)
        subst ev
        exact fin _ _ G' H' p' R ⟨a, o, rfl, m3, m2, m4, m5⟩
      · rename_i d ei
        cases q'
        obtain ⟨v', m1, m2⟩ := E'.val i _ ei
        have k0 := r'.1
        rw [m1] at k0
        have ev : v' = v := Option.some.inj (Option.some.inj k0)
        subst ev
        exact fin _ _ G' H' p' R m2
      · cases q'
theorem FnC.of {x : Str} {f : Addr} {fd : FuncData} {ps : List Str} {j k : Nat} {ms : List Bool} {F : FSp} (h : FnOk c.P c.w c.K c.mg c.base (L2.CX c.P c.w) j f fd ps (spV c ms F)) (hm : c.mg x = some (.ref f)) (hk : PySem.W.keepIn c.K (.ref f) = true) (hb : Binds c.K fd ps []) (l : j ≤ k) (N : List Str) (sc : Scope) :
    FnC (c.inn k N sc) x ms F := ⟨⟨f, fd, ps, h.mono l, hm, hk, hb⟩⟩
/-! ### a law -/
def spLaw (K : PySem.W.Frag) : Sp := fun vs H Q _ => ∃ (a : Addr) (ns : List Int), vs = [.ref a] ∧ SqL K H a (ns.map V.int) ∧ ns.length ≤ 63 ∧ ∀ H', Q (.bl true) H'
def FLaw : FSp := fun ds P _ => ∃ ns : List Int, ds = [.lst (ns.map D.int)] ∧ ns.length ≤ 63 ∧ P (.val (.bl true))
theorem repL_ints {K : PySem.W.Frag} {w : World} {G : Hp} : ∀ ns : List Int, RepL K w G (ns.map V.int) (ns.map D.int)
  | [] => .nil
  | n :: ns => .cons (.int n) (repL_ints ns)
theorem law_ok {f : Addr} {fd : FuncData} {k : Nat} {x : Str} (h : FnOk c.P c.w c.K c.mg c.base (L2.CX c.P c.w) k f fd [x] (spV c [true] FLaw)) : FnOk c.P c.w c.K c.mg c.base (L2.CX c.P c.w) k f fd [x] (spLaw c.K) :=
  h.imp fun vs H Q E ⟨a, ns, e, hs, hl, q⟩ => ⟨fun _ => none, [.lst (ns.map D.int)], fun r => r = .val (.bl true), fun _ => False, fun b o z => absurd (show (none : Option HO) = some o from z) (by simp), by
    subst e
    exact .bor ⟨a, _, rfl, hs, repL_ints ns⟩ .nil, ⟨ns, rfl, hl, rfl⟩, fun rv v G' H' p res r => by
    subst p
    cases r
    exact q H', fun x cls dx G' H' p => p.elim⟩
end
end VS

namespace VS
open PySem PySem.Spec L2

/-! ### short ways to a name's facts, by the kernel -/
def visB (N : List Str) (sc : Scope) (i : Nat) (x : Str) : Bool := decide (N[i]? = some x) && (match sc.names.lookup x with | some .local => true | some .cell => true | some .free => true | _ => false) && (x == ("__debug__" : Str)) == false && (x == ("__classdict__" : Str)) == false
def stoB (N : List Str) (sc : Scope) (fn : Str → Bool) (i : Nat) (x : Str) : Bool := decide (N[i]? = some x) && (match sc.names.lookup x with | some .local => true | some .cell => fn x | _ => false)
def glB (sc : Scope) (x : Str) : Bool := match sc.names.lookup x with | some .globalImplicit => true | _ => false
theorem visC_of {c : Cfg} {i : Nat} {x : Str} (h : visB c.N c.scope i x = true) : VisC c i x := by
  unfold visB at h
  simp only [Bool.and_eq_true, decide_eq_true_eq, beq_iff_eq] at h
  obtain ⟨⟨⟨h1, h2⟩, h3⟩, h4⟩ := h
  refine ⟨h1, ?_, h3, h4⟩
  unfold Vis
  split at h2 <;> first | exact .inl (by assumption) | exact .inr (.inl (by assumption)) | exact .inr (.inr (by assumption)) | cases h2
theorem stoC_of {c : Cfg} {i : Nat} {x : Str} (h : stoB c.N c.scope c.fn i x = true) : StoC c i x := by
  unfold stoB at h
  simp only [Bool.and_eq_true, decide_eq_true_eq] at h
  obtain ⟨h1, h2⟩ := h
  refine ⟨h1, ?_⟩
  unfold L2.Loc
  split at h2
  · rename_i q; exact ⟨.inl q, .inr q⟩
  · rename_i q; exact ⟨.inr q, .inl h2⟩
  · cases h2
theorem glC_of {c : Cfg} {x : Str} (h : glB c.scope x = true) : GlC c x := by
  unfold glB at h
  split at h
  · rename_i q; exact q
  · cases h

section
variable {c : Cfg}
/-! ### len -/
def opLen : List D → (RV → Prop) → Prop
  | [.str x], Q => x.length ≤ sizeLine ∧ Q (.val (.int x.length))
  | [.lst xs], Q => Q (.val (.int xs.length))
  | [.tup xs], Q => Q (.val (.int xs.length))
  | [.ktup xs], Q => Q (.val (.int xs.length))
  | [.dic _ xs], Q => Q (.val (.int xs.length))
  | _, _ => False
def rLenA (K : PySem.W.Frag) : List V → Hp → VK → Prop := fun xs H Q => (∃ x n, xs = [x] ∧ LenV K x H n ∧ Q (.int n) H) ∨ ∃ a n, xs = [V.ref a] ∧ ((∃ kvs, Rd H a (.dK kvs) ∧ n = kvs.length) ∨ ∃ kvs, Rd H a (.dT kvs) ∧ n = kvs.length) ∧ Q (.int (n : Nat)) H
theorem call_lenDD {X : Cx} : CallR X (.builtin "len") (fun xs H Q => ∃ a n, xs = [V.ref a] ∧ ((∃ kvs, Rd H a (.dK kvs) ∧ n = kvs.length) ∨ ∃ kvs, Rd H a (.dT kvs) ∧ n = kvs.length) ∧ Q (.int (n : Nat)) H) := by
  intro pins s σ H xs us Q I r h
  obtain ⟨a, n, rfl, hd, q⟩ := h
  obtain ⟨u, rfl, ru⟩ := vals1 r
  cases ru
  rcases hd with ⟨kvs, ha, rfl⟩ | ⟨kvs, ha, rfl⟩
  · exact d_len I ha fun t s' I' => ⟨.int kvs.length, H, I', ⟨t, rfl⟩, q⟩
  · obtain ⟨z, hd, xs, rel, dd⟩ := dt_rd I.hok ha
    have hl : kvs.length = xs.length := Paired.length rel
    refine call_len_dictH hd dd (by rw [← hl]; rw [sizeLine_eq] at z; omega) ?_
    rw [← hl]
    exact ⟨.int ((kvs.length : Nat) : Int), H, I.tok _, ⟨_, rfl⟩, q⟩
theorem len_s : OpSn c (rLenA c.K) opLen := by
  intro G H xs ds P K s r o f
  unfold opLen at o
  split at o
  · cases r with
    | cons h r =>
    cases r
    cases h
    exact .inl ⟨_, _, rfl, ⟨o.1, rfl⟩, f.val s o.2 (.int _)⟩
  · cases r with
    | cons h r =>
    cases r
    obtain ⟨a, vs, rfl, hq, rr⟩ := h
    exact .inl ⟨_, vs.length, rfl, .inl ⟨vs, hq, rfl⟩, f.val s (by rw [rr.length]; exact o) (.int _)⟩
  · cases r with
    | cons h r =>
    cases r
    cases (show Rep c.K c.w G _ _ from h) with
    | @tup a vs _ hq rr => exact .inl ⟨_, vs.length, rfl, .inr ⟨vs, SqT.of (s _ _ hq), rfl⟩, f.val s (by rw [rr.length]; exact o) (.int _)⟩
  · cases r with
    | cons h r =>
    cases r
    cases (show Rep c.K c.w G _ _ from h) with
    | @ktup a vs _ hq rr => exact .inl ⟨_, vs.length, rfl, .inr ⟨vs, .inr hq, rfl⟩, f.val s (by rw [rr.length]; exact o) (.int _)⟩
  · cases r with
    | cons h r =>
    cases r
    rename_i t kvs _
    cases t with
    | false =>
      obtain ⟨a, vs, rfl, hq, rr⟩ := h
      exact .inr ⟨a, vs.length, rfl, .inl ⟨vs, hq, rfl⟩, f.val s (by rw [rr.length]; exact o) (.int _)⟩
    | true =>
      obtain ⟨a, vs, rfl, hq, rr⟩ := h
      exact .inr ⟨a, vs.length, rfl, .inr ⟨vs, hq, rfl⟩, f.val s (by rw [rr.length]; exact o) (.int _)⟩
  · exact o.elim
theorem r_len {X : Cx} (g : Good c X) : CallR X (.builtin "len") (rLenA c.K) := by
  rw [← g.K]
  exact call_len.or call_lenDD
def opMin2 : List D → (RV → Prop) → Prop
  | [.int i, .int j], Q => Q (.val (.int (if j < i then j else i)))
  | _, _ => False
def opMax2 : List D → (RV → Prop) → Prop
  | [.int i, .int j], Q => Q (.val (.int (if j > i then j else i)))
  | _, _ => False
theorem min2_s : OpSn c (fun xs H Q => ∃ i j, xs = [.int i, .int j] ∧ Q (.int (if j < i then j else i)) H) opMin2 := by
  intro G H xs ds P K s r o f
  unfold opMin2 at o
  split at o
  · cases r with
    | cons h r =>
    cases r with
    | cons h' r =>
    cases r
    cases h
    cases h'
    exact ⟨_, _, rfl, f.val s o (.int _)⟩
  · exact o.elim
/-! ### isinstance -/
def tyN : D → String
  | .non => "NoneType"
  | .bl _ => "bool"
  | .int _ => "int"
  | .str _ => "str"
  | .ty _ => "type"
  | .tup _ => "tuple"
  | .ktup _ => "tuple"
  | .lst _ => "list"
  | .dic _ _ => "dict"
  | .kdic _ => "dict"
  | .exc _ _ => ""
  | .dix _ => "dict"
  | .ins _ _ => ""
def isi (T : String) : D → Bool
  | .ty _ => false
  | .bl _ => T == "bool" || T == "int"
  | d => tyN d == T
def opIsi : List D → (RV → Prop) → Prop
  | [d, .ty T], Q => (T = "int" ∨ T = "bool" ∨ T = "str" ∨ T = "tuple" ∨ T = "list" ∨ T = "dict") ∧ (match d with | .ty _ => False | .kdic _ => False | .exc _ _ => False | .ins _ _ => False | _ => True) ∧ Q (.val (.bl (isi T d)))
  | _, _ => False
def rIsiD (K : PySem.W.Frag) : List V → Hp → VK → Prop := fun xs H Q => ∃ (x : V) (T t : String) (b : Bool), xs = [x, .ty T] ∧ (TyX K H x (.type t) ∨ (t = "dict" ∧ ∃ a kvs, x = .ref a ∧ Rd H a (.dT kvs)) ∨ (t = "dict" ∧ ∃ w a a' kvs, x = .ref a ∧ Rd H a (dxO w a' kvs))) ∧ kitB t T = some b ∧ Q (.bl b) H
theorem call_isiD {X : Cx} : CallR X (.builtin "isinstance") (rIsiD X.K) := by
  intro pins s σ H xs us Q I r h
  obtain ⟨x, T, t, b, rfl, ty, e, q⟩ := h
  rcases ty with ty | ⟨rfl, a, kvs, rfl, hd⟩ | ⟨rfl, w, a, a', kvs, rfl, hd⟩
  · exact call_isi pins s σ H _ us Q I r ⟨x, .ty T, .type t, .type T, b, rfl, .ty T, ty, e, q⟩
  · obtain ⟨u1, u2, rfl, r1, r2⟩ := vals2 r
    obtain rfl : u1 = Value.ref a := r1
    obtain rfl : u2 = Value.type T := r2
    obtain ⟨_, _, xs, _, o, es, ep, h1, h2, _⟩ := dt_rd I.hok hd
    exact PySem.W.kia_one PySem.W.kitx_dict I.kIn ⟨o, h1, h2.1⟩ (kit_ty (K := X.K) e) (fun z => nomatch z) fun tk => ⟨.bl b, H, I.tok tk, rfl, q⟩
  · obtain ⟨u1, u2, rfl, r1, r2⟩ := vals2 r
    obtain rfl : u1 = Value.ref a := r1
    obtain rfl : u2 = Value.type T := r2
    obtain ⟨_, _, _, xs, _, o, es, ep, h1, h2, _⟩ := dx_rd I.hok hd
    exact PySem.W.kia_one PySem.W.kitx_dict I.kIn ⟨o, h1, h2.1⟩ (kit_ty (K := X.K) e) (fun z => nomatch z) fun tk => ⟨.bl b, H, I.tok tk, rfl, q⟩
theorem kit_all : (["NoneType", "bool", "int", "str", "tuple", "list", "dict"].all fun t => ["int", "bool", "str", "tuple", "list", "dict"].all fun T => decide (kitB t T = some ((t == T) || (t == "bool" && T == "int")))) = true := by decide +kernel
theorem kit_one {t T : String} (ht : t ∈ ["NoneType", "bool", "int", "str", "tuple", "list", "dict"]) (hT : T ∈ ["int", "bool", "str", "tuple", "list", "dict"]) : kitB t T = some ((t == T) || (t == "bool" && T == "int")) := by
  have h := List.all_eq_true.mp kit_all t ht
  exact of_decide_eq_true (List.all_eq_true.mp h T hT)
theorem isi_s : OpSn c (rIsiD c.K) opIsi := by
  intro G H xs ds P K s r o f
  unfold opIsi at o
  split at o
  · rename_i d T
    obtain ⟨hT, hd, p⟩ := o
    have hT' : T ∈ ["int", "bool", "str", "tuple", "list", "dict"] := by
      rcases hT with h | h | h | h | h | h <;> subst h <;> simp
    cases r with
    | cons h r =>
    cases r with
    | cons h' r =>
    cases r
    cases h'
    rename_i x
    have go : ∀ {t : String} {b : Bool}, t ∈ ["NoneType", "bool", "int", "str", "tuple", "list", "dict"] → ((t == T) || (t == "bool" && T == "int")) = b → (TyX c.K H x (.type t) ∨ (t = "dict" ∧ ∃ a kvs, x = .ref a ∧ Rd H a (.dT kvs)) ∨ (t = "dict" ∧ ∃ w a a' kvs, x = .ref a ∧ Rd H a (dxO w a' kvs))) → P (.val (.bl b)) → rIsiD c.K [x, .ty T] H K :=
      fun ht hb ty p => ⟨x, T, _, _, rfl, ty, by rw [kit_one ht hT', hb], f.val s p (.bl _)⟩
    have seqL : ∀ {a : Addr} {vs : List V}, SqL c.K H a vs → TyX c.K H (.ref a) (.type "list") := fun hq => by
      rcases hq with (hq | ⟨o, hq⟩) | ⟨o, its, n, h1, h2, _⟩
      · exact .base (.lst hq)
      · exact .base (.frz hq)
      · exact .kList h1 h2
    cases d with
    | non => cases h; exact go (t := "NoneType") (by simp) (by rfl) (.inl (.base .non)) (by simpa [isi, tyN] using p)
    | bl b =>
      cases h
      refine go (t := "bool") (b := isi T (.bl b)) (by simp) ?_ (.inl (.base (.bl _))) p
      simp only [isi]
      rcases hT with h | h | h | h | h | h <;> subst h <;> decide
    | int i => cases h; exact go (t := "int") (by simp) (by simp [isi, tyN]) (.inl (.base (.int _))) p
    | str i => cases h; exact go (t := "str") (by simp) (by simp [isi, tyN]) (.inl (.base (.str _))) p
    | ty _ => exact hd.elim
    | kdic _ => exact hd.elim
    | exc _ _ => exact hd.elim
    | dix _ =>
      obtain ⟨a, a', kvs, rfl, q, _⟩ := h
      exact go (t := "dict") (by simp) (by simp [isi, tyN]) (.inr (.inr ⟨rfl, _, _, _, _, rfl, q⟩)) p
    | ins _ _ => exact hd.elim
    | tup ds =>
      cases (show Rep c.K c.w G _ _ from h) with
      | @tup a vs _ hq rr => exact go (t := "tuple") (by simp) (by simp [isi, tyN]) (.inl (.base (.tup (s _ _ hq)))) p
    | ktup ds =>
      cases (show Rep c.K c.w G _ _ from h) with
      | @ktup a vs _ hq rr =>
        obtain ⟨o, its, n, h1, h2, _⟩ := hq
        exact go (t := "tuple") (by simp) (by simp [isi, tyN]) (.inl (.kTuple h1 h2)) p
    | lst ds =>
      obtain ⟨a, vs, rfl, hq, rr⟩ := h
      exact go (t := "list") (by simp) (by simp [isi, tyN]) (.inl (seqL hq)) p
    | dic t kvs =>
      cases t with
      | false =>
        obtain ⟨a, vs, rfl, hq, rr⟩ := h
        rcases hq with hq | ⟨o, hq⟩
        · exact go (t := "dict") (by simp) (by simp [isi, tyN]) (.inl (.base (.dK hq))) p
        · exact go (t := "dict") (by simp) (by simp [isi, tyN]) (.inl (.fDict hq)) p
      | true =>
        obtain ⟨a, vs, rfl, hq, rr⟩ := h
        exact go (t := "dict") (by simp) (by simp [isi, tyN]) (.inr (.inl ⟨rfl, a, vs, rfl, hq⟩)) p
  · exact o.elim
/-- a built-in type's name as a value -/
theorem ve_type {x : Str} {T : String} {pos : Pos} (b : BltC c x (.type T)) : VE c (.Name x pos) (eC (.ty T)) := ve_of (fun X g => pe_bltn (b.gl.gl g) (by rw [g.mg]; exact b.mg) b.bt (show RelV (.ty T) (.type T) from rfl) b.nn b.nd) (.ty T)

/-! ### methods of built-in types -/
def tyM (T : String) : D → Bool
  | .str _ => T == "str"
  | .lst _ => T == "list"
  | .dic _ _ => T == "dict"
  | _ => false
theorem tyM_is {X : Cx} {pins : List (Addr × Obj)} {σ : St} {G H : Hp} {s : Shared} {T : String} {x : V} {v : Value} {d : D} (g : Good c X) (I : Inv X pins σ H s) (r : RelV x v) (gh : Same G H) (h : RD c.K c.w H G x d) (ht : tyM T d = true) :
    s.TypeIs v T ∧ ∀ a, v = .ref a → ∃ ob, s.heap.get? a = some ob ∧ ob.dict = none := by
  cases d <;> try (cases ht; done)
  · cases h
    obtain rfl : T = "str" := by simpa [tyM] using ht
    obtain ⟨t, rfl⟩ := r
    exact ⟨typeIs_str s _ t, fun _ e => nomatch e⟩
  · obtain rfl : T = "list" := by simpa [tyM] using ht
    obtain ⟨a, vs, rfl, hq, _⟩ := h
    exact tyV_is I r (.inl ⟨rfl, _, by rw [g.K]; exact hq⟩)
  · rename_i t kvs
    obtain rfl : T = "dict" := by simpa [tyM] using ht
    have z : ∃ a, x = .ref a ∧ IsD H a := by
      cases t with
      | false => obtain ⟨a, vs, rfl, hq, _⟩ := h; exact ⟨a, rfl, .inl ⟨vs, hq⟩⟩
      | true => obtain ⟨a, vs, rfl, hq, _⟩ := h; exact ⟨a, rfl, .inr ⟨vs, hq⟩⟩
    obtain ⟨a, rfl, hd⟩ := z
    obtain rfl : v = Value.ref a := r
    obtain ⟨t1, t2, _⟩ := isD_at I hd
    exact ⟨t1, t2⟩
def OpSm (c : Cfg) (r : V → List V → Hp → VK → Prop) (op : D → List D → (RV → Prop) → Prop) : Prop := ∀ (G H : Hp) (x : V) (xs : List V) (d : D) (ds : List D) (P : RV → Prop) (K : VK), Same G H → RD c.K c.w H G x d → Paired (fun x d => RD c.K c.w H G x d) xs ds → op d ds P → Fin c G H P K → r x xs H K
def eMth (T : String) (op : D → List D → (RV → Prop) → Prop) (to : ET) (ta : AT) : ET := fun env Q Xq => to env (fun r e1 => ∃ d0, rd e1 r = some d0 ∧ tyM T d0 = true ∧ ta e1 (fun rs e2 => ∃ d ds, rd e2 r.hold = some d ∧ rds e2 rs = some ds ∧ op d ds fun r => Q r e2) Xq) Xq
def notCall0 : Expr → Bool
  | .Call (.Name _ _) [] [] _ => false
  | _ => true
theorem base_of {o : Expr} {m : Str} {env : PySem.Env} {w : Sem Value} (h : notCall0 o = true) : attributeBase o m env w = w := by
  unfold attributeBase
  split
  · cases h
  · rfl
theorem few_of {e : Expr} {es : List Expr} {cpos : Pos} {env : PySem.Env} (hn : (e :: es).all noStar = true) (h30 : (e :: es).length < 30) : ((backTo cpos (starEach (e :: es) env)).all (fun x => !x.1) && (backToKw cpos (keywordEach [] env)).all (fun x => x.1.isSome)
      && decide ((e :: es).length + ([] : List Keyword).length + (if ([] : List Keyword).isEmpty then 0 else 1) < 30)) = true := by
  have h1 : (backTo cpos (starEach (e :: es) env)).any (·.1) = false := noStars hn
  have h2 : (backTo cpos (starEach (e :: es) env)).all (fun x => !x.1) = true := by
    rw [List.all_eq_true]
    intro x hx
    cases q : x.1 with
    | false => rfl
    | true =>
      have : (backTo cpos (starEach (e :: es) env)).any (·.1) = true := List.any_eq_true.mpr ⟨x, hx, q⟩
      rw [h1] at this
      cases this
  rw [h2]
  simp only [Bool.true_and, Bool.and_eq_true, decide_eq_true_eq]
  exact ⟨rfl, by simpa using h30⟩
theorem ve_mth {T id : String} {name : Str} {o e : Expr} {es : List Expr} {apos cpos : Pos} {to : ET} {ta : AT} {r : V → List V → Hp → VK → Prop} {op : D → List D → (RV → Prop) → Prop} (pa : PlainAttrs T) (slot : PySem.Slot T name id) (hty : typeOf (.builtin id) = pure (.type "method_descriptor"))
    (hm : ∀ X, Good c X → MtR X id r) (hs : OpSm c r op) (ho : VE c o to) (ha : VA c (e :: es) ta) (hb : notCall0 o = true := by rfl) (hn : (e :: es).all noStar = true := by rfl) (h30 : (e :: es).length < 30 := by decide) (hline : (apos.endLine == cpos.line) = true := by rfl) :
    VE c (.Call (.Attribute o name apos) (e :: es) [] cpos) (eMth T op to ta) := by
  constructor
  intro X g G B H σ env Q Xq E q tk pins s I
  have hn2 : noStar e = true ∧ es.all noStar = true := by
    rw [List.all_cons, Bool.and_eq_true] at hn
    exact hn
  refine wpAny_Call_method_late (base_of hb) (few_of hn h30) hline rfl (thn ((ho.run X g G B H σ env _ Xq E q tk) pins s I) fun u s1 ⟨x, H1, I1, ru, rv, e1, G1, ⟨d0, q0, qt, q1⟩, E1, x1, k1, r1⟩ => ?_)
  obtain ⟨h1, h2⟩ := tyM_is g I1 ru E1.gh (E1.rdR r1 q0) qt
  refine ⟨T, id, pa, slot, hty, h1, h2, ?_⟩
  obtain ⟨G2, x2, E2, p2⟩ := r1.hold E1
  have hA := (ha.run X g G2 B H1 σ e1 _ Xq E2 q1 (takes_up tk (x1.trans x2) k1)) cpos pins s1 I1
  rw [star_cons hn2.1] at hA ⊢
  refine Calls.callWith_builtin (by show (false || (backTo cpos (starEach es X.env)).any (·.1)) = false; rw [noStars hn2.2] <;> rfl) (Calls.evalArgs_plain ?_)
  refine thn hA fun us s2 ⟨vs, H2, I2, r2, rs, e2, G3, ⟨d, ds, qd, qs, qo⟩, E3, x3, k3, p3⟩ => ?_
  refine hm X g pins s2 σ H2 x vs u us _ I2 ru r2 (hs G3 H2 x vs d ds _ _ E3.gh (E3.rdH (p2.mono x3.1) qd) (E3.rds p3 qs) qo fun rv v G' H' p res rr => ?_)
  exact ⟨rv, e2, G', p, E3.go res, ((x1.trans x2).trans x3).trans (res.ext E3.bh), k1.trans k3, E3.goR res rr⟩
/-! list.index -/
def opIndex : D → List D → (RV → Prop) → Prop
  | .lst ds, [d], Q => D.okD 59 d = true ∧ D.okL 59 ds = true ∧ ∃ j, ds[j]? = some d ∧ (∀ m z, m < j → ds[m]? = some z → z ≠ d) ∧ Q (.val (.int (j : Nat)))
  | _, _, _ => False
end
end VS

namespace VS
open PySem PySem.Spec L2

/-! ### within a def -/
section
variable {c : Cfg} {k : Nat} {N : List Str} {sc : Scope} {i : Nat} {x : Str}
theorem visI (h : visB N sc i x = true) : VisC (c.inn k N sc) i x := visC_of h
theorem stoI (h : stoB N sc (fun _ => true) i x = true) : StoC (c.inn k N sc) i x := stoC_of h
theorem glI (h : glB sc x = true) : GlC (c.inn k N sc) x := glC_of h
def okV (u : Value) (x : Str) : Bool := match bootBuiltins x with
  | some (.builtin a) => (match u with | .builtin b => a == b | _ => false)
  | some (.type a) => (match u with | .type b => a == b | _ => false)
  | _ => false
theorem okV_of {u : Value} (h : okV u x = true) : bootBuiltins x = some u := by
  unfold okV at h
  split at h
  · rename_i a e
    split at h
    · rw [e]
      simp at h
      rw [h]
    · cases h
  · rename_i a e
    split at h
    · rw [e]
      simp at h
      rw [h]
    · cases h
  · cases h
theorem bltI {u : Value} (m : c.mg x = none) (h1 : glB sc x = true) (h2 : okV u x = true) (h3 : decide (x = "__name__") = false) (h4 : (x == ("__debug__" : Str)) = false) : BltC (c.inn k N sc) x u := ⟨glC_of h1, m, okV_of h2, of_decide_eq_false h3, h4⟩
theorem FnC.inn {ms : List Bool} {F : FSp} (h : FnC (c.lv k) x ms F) : FnC (c.inn k N sc) x ms F := ⟨h.ex⟩
theorem Glb.inn {d : D} (h : Glb c x d) : Glb (c.inn k N sc) x d := ⟨h.ex⟩
theorem FnC.lvl {f : Addr} {fd : FuncData} {ps : List Str} {j : Nat} {ms : List Bool} {F : FSp} (h : FnOk c.P c.w c.K c.mg c.base (L2.CX c.P c.w) j f fd ps (spV c ms F)) (hm : c.mg x = some (.ref f)) (hk : PySem.W.keepIn c.K (.ref f) = true) (hb : Binds c.K fd ps []) (l : j ≤ k) :
    FnC (c.lv k) x ms F := ⟨⟨f, fd, ps, h.mono l, hm, hk, hb⟩⟩
end
/-! ### written constants -/
structure ConstAt (K : PySem.W.Frag) (w : World) (g : Addr) (x : Str) (d : D) : Prop where
  ex : ∃ u v, PySem.W.nsIn K g x = some (some u) ∧ RelV v u ∧ Rep K w (fun _ => none) v d
theorem ConstAt.glb {c : Cfg} {x : Str} {d : D} {h : Heap} (C : ConstAt c.K c.w mainGlobals x d) (X : c.K.In h) (G : h.Ns mainGlobals c.mg) : Glb c x d := by
  obtain ⟨u, v, h1, h2, h3⟩ := C.ex
  exact ⟨u, v, PySem.W.mg_of X G h1, h2, h3⟩
theorem cx_false {P : Program} {w : World} {H : Hp} {s : Shared} {e : Value} {s' : Shared} (h : L2.CX P w [] H s (fun _ _ _ => False) e s') : False := by
  obtain ⟨_, _, _, _, _, _, _, _, _, _, _, _, f⟩ := h
  exact f
end VS

namespace VS
open PySem PySem.Spec L2
theorem ite_t {b : Bool} {A B : Prop} (h : b = true) (a : A) : if b = true then A else B := by rw [if_pos h]; exact a
theorem ite_f {b : Bool} {A B : Prop} (h : b = false) (a : B) : if b = true then A else B := by rw [if_neg (by rw [h]; decide)]; exact a
theorem ite_c {b : Bool} {A B : Prop} (h1 : b = true → A) (h2 : b = false → B) : if b = true then A else B := by
  cases b
  · exact ite_f rfl (h2 rfl)
  · exact ite_t rfl (h1 rfl)
theorem mul_l {i j : Int} (h1 : -18446744073709551616 < i) (h2 : i < 18446744073709551616) : mulOk i j := .inl (.inl ⟨h1, h2⟩)
theorem mul_r {i j : Int} (h1 : -18446744073709551616 < j) (h2 : j < 18446744073709551616) : mulOk i j := .inl (.inr ⟨h1, h2⟩)
section
variable {K : PySem.W.Frag} {w : World} {G : Hp} {g a b : Addr} {x : Str} {d : D} {u : Value} {v : V}
theorem constAt_ref (h1 : PySem.W.nsIn K g x = some (some (.ref a))) (h : Rep K w (fun _ => none) (.ref a) d) : ConstAt K w g x d := ⟨⟨.ref a, .ref a, h1, rfl, h⟩⟩
theorem constAt_int {i : Int} {t : Tok} (h1 : PySem.W.nsIn K g x = some (some (.int i t))) : ConstAt K w g x (.int i) := ⟨⟨.int i t, .int i, h1, ⟨_, rfl⟩, .int _⟩⟩
theorem vals_nil : Vals [] [] := .nil
theorem vals_ref {vs : List V} {us : List Value} (h : Vals vs us) : Vals (.ref a :: vs) (.ref a :: us) := .cons rfl h
theorem vals_int {vs : List V} {us : List Value} {i : Int} {t : Tok} (h : Vals vs us) : Vals (.int i :: vs) (.int i t :: us) := .cons ⟨_, rfl⟩ h
theorem vals_str {vs : List V} {us : List Value} {i : Str} {t : Tok} (h : Vals vs us) : Vals (.str i :: vs) (.str i t :: us) := .cons ⟨_, rfl⟩ h
theorem rep_ktup {od : Option Addr} {its : Array Value} {n : Nat} {sl : Array (Option Value)} {vs : List V} {ds : List D} (l : K.lookup a = some ⟨.type "tuple", od, .seq its n, sl⟩) (z : its.size ≤ sizeLine) (h : Vals vs its.toList) (r : RepL K w G vs ds) : Rep K w G (.ref a) (.ktup ds) := .ktup ⟨_, its, n, l, rfl, rfl, z, h⟩ r
theorem repC_ref {es : Array DictEntry} {n : Nat} {ds : List (D × D)} (l : K.lookup a = some ⟨.type "dict", none, .dict es n, #[]⟩) (k : PySem.W.KeysLit w.params es.toList) (e : PySem.W.nsIn K a x = some (some (.ref b))) (h : Rep K w G (.ref b) d) (t : RepC K w G a ds) : RepC K w G a ((.str x, d) :: ds) := .cons (v := .ref b) ⟨es, n, _, l, k, e, rfl⟩ h t
end
end VS

namespace VS
open PySem PySem.Spec L2

/-! ### list comprehensions -/
def Cfg.blk (c : Cfg) (scope : Scope) : Cfg := { c with scope := relS scope c.scope, fn := fun x => scope.names.lookup x == some .cell, top := false }
def wipeE (env : Env) : List Nat → Env
  | [] => env
  | i :: is => (wipeE env is).set i .emp
def noX : XQ := fun _ _ => False
def wLc (g : GT) (tt : TTt) (te : ET) (is : List Nat) (Q : List D → Env → Prop) : List D → List D → Env → Prop
  | [], acc, env => Q acc env
  | d :: ds, acc, env => g d env fun e1 => tt e1 (fun b e2 => if b = true then te e2 (fun rv e3 => ∃ dv e4, fz e3 rv = some (dv, e4) ∧ acc.length < sizeLine ∧ wLc g tt te is Q ds (acc ++ [dv]) (wipeE e4 is)) noX else wLc g tt te is Q ds acc (wipeE e2 is)) noX
@[irreducible] def WC (g : GT) (tt : TTt) (te : ET) (is : List Nat) (Q : List D → Env → Prop) (ds : List D) (env : Env) : Prop := wLc g tt te is Q ds [] env
theorem WC_eq {g : GT} {tt : TTt} {te : ET} {is : List Nat} {Q : List D → Env → Prop} {ds : List D} {env : Env} : WC g tt te is Q ds env = wLc g tt te is Q ds [] env := by unfold WC; rfl
def eLc (it : IT) (g : GT) (tt : TTt) (te : ET) (is : List Nat) : ET := fun env Q Xq => it env (fun ds lk e1 => WC g tt te is (fun acc e => Q (.fr (.lst acc)) (unl lk e)) ds (wipeE (lockE lk e1) is)) Xq
def tYesD : TTt := fun env Q _ => Q true env
structure VTs (c : Cfg) (ifs : List Expr) (t : TTt) : Prop where
  run : ∀ (X : Cx), Good c X → ∃ tt : TT, PTs X ifs tt ∧ ∀ (G B H : Hp) (σ : St) (env : Env) (Q : Bool → Env → Prop) (Xq : XQ),
    RepEnv c G B H σ env → t env Q Xq → Takes X (WXo c G B σ env Xq) → ∀ R : Bool → Hp → Prop, (∀ b H', VQt c G B σ env Q b H' → R b H') → tt σ H R
theorem vts_nil {c : Cfg} : VTs c [] tYesD := ⟨fun X g => ⟨_, pts_nil, fun G B H σ env Q Xq E q tk R h => h _ _ ⟨env, G, q, E, Ext.refl _ _, Keeps.refl _⟩⟩⟩
theorem vts_one {c : Cfg} {e : Expr} {t : TTt} (h : VT c e t) : VTs c [e] t := ⟨fun X g => ⟨_, pts_one (pt_tu (e := e)), fun G B H σ env Q Xq E q tk R hR => (h.run X g G B H σ env Q Xq E q tk).imp hR⟩⟩
theorem wipeE_length (env : Env) : ∀ is : List Nat, (wipeE env is).length = env.length
  | [] => rfl
  | i :: is => by unfold wipeE; rw [List.length_set, wipeE_length env is]
theorem wipeE_get {env : Env} {j : Nat} : ∀ {is : List Nat} {s : Slot}, (wipeE env is)[j]? = some s → s = .emp ∨ (env[j]? = some s ∧ j ∉ is)
  | [], s, h => .inr ⟨h, by simp⟩
  | i :: is, s, h => by
    unfold wipeE at h
    by_cases e : i = j
    · subst e
      by_cases hv : i < (wipeE env is).length
      · rw [List.getElem?_set_self hv] at h
        exact .inl (Option.some.inj h).symm
      · rw [List.getElem?_eq_none (by simpa using hv)] at h
        cases h
    · rw [List.getElem?_set_ne e] at h
      rcases wipeE_get h with h | ⟨h1, h2⟩
      · exact .inl h
      · exact .inr ⟨h1, by simp only [List.mem_cons, not_or]; exact ⟨fun z => e z.symm, h2⟩⟩
section
variable {c : Cfg} {scope : Scope}
theorem Good.blk {X : Cx} (g : Good c X) (s : Shared) (H : Hp) (C : Addr) (cl : List (Str × Addr)) (fp : List Addr) : Good (c.blk scope) (X.blk s H scope (compEnvC scope cl C X.env) fp) where
  prog := g.prog
  w := g.w
  K := g.K
  mg := g.mg
  base := g.base
  N := g.N
  nd := g.nd
  scope := by
    show relS scope X.env.scope = relS scope c.scope
    rw [g.scope]
  fn := rfl
  roomH := g.roomH
  calmH := g.calmH
  po := PassesOwn.never
  stk := fun h => nomatch h
/-- a RepEnv knows of a configuration its K and its w -/
theorem RepEnv.cfg {c' : Cfg} {G B H : Hp} {σ : St} {env : Env} (h1 : c'.K = c.K) (h2 : c'.w = c.w) (E : RepEnv c G B H σ env) : RepEnv c' G B H σ env :=
  ⟨E.gh, E.bh, E.len, by rw [h1, h2]; exact E.val, by rw [h1, h2]; exact E.own, by rw [h1, h2]; exact E.bor, E.dis⟩
theorem RepEnv.blk {G B H : Hp} {σ : St} {env : Env} (E : RepEnv c G B H σ env) : RepEnv (c.blk scope) G B H σ env := RepEnv.cfg (c := c) (c' := c.blk scope) rfl rfl E
theorem RepEnv.unblk {G B H : Hp} {σ : St} {env : Env} (E : RepEnv (c.blk scope) G B H σ env) : RepEnv c G B H σ env := RepEnv.cfg (c := c.blk scope) (c' := c) rfl rfl E
theorem RepEnv.wipe {G B H : Hp} {σ : St} {env : Env} (E : RepEnv c G B H σ env) (is : List Nat) : RepEnv c G B H (L2.wipe σ is) (wipeE env is) where
  gh := E.gh
  bh := E.bh
  len := by rw [wipe_length, wipeE_length]; exact E.len
  val := fun i d h => by
    rcases wipeE_get h with h | ⟨h, hi⟩
    · cases h
    · obtain ⟨v, h1, h2⟩ := E.val i d h
      exact ⟨v, by rw [wipe_out hi]; exact h1, h2⟩
  own := fun i d h => by
    rcases wipeE_get h with h | ⟨h, hi⟩
    · cases h
    · obtain ⟨a, o, h1, h2⟩ := E.own i d h
      exact ⟨a, o, by rw [wipe_out hi]; exact h1, h2⟩
  bor := fun i d h => by
    rcases wipeE_get h with h | ⟨h, hi⟩
    · cases h
    · obtain ⟨a, h1, h2⟩ := E.bor i d h
      exact ⟨a, by rw [wipe_out hi]; exact h1, h2⟩
  dis := fun i j d d' a h1 h2 h3 h4 => by
    rcases wipeE_get h1 with h | ⟨k1, l1⟩
    · cases h
    rcases wipeE_get h2 with h | ⟨k2, l2⟩
    · cases h
    rw [wipe_out l1] at h3
    rw [wipe_out l2] at h4
    exact E.dis i j d d' a k1 k2 h3 h4
/-- slots told again where the environment tells nothing of them -/
theorem RepEnv.back {G B H : Hp} {σ σ' : St} {env : Env} (E : RepEnv c G B H σ env) (hl : σ'.length = σ.length) (h : ∀ (i : Nat) (s : Slot), env[i]? = some s → s = .emp ∨ σ'[i]? = σ[i]?) : RepEnv c G B H σ' env where
  gh := E.gh
  bh := E.bh
  len := hl.trans E.len
  val := fun i d e => by
    obtain ⟨v, h1, h2⟩ := E.val i d e
    rcases h i _ e with q | q
    · cases q
    · exact ⟨v, q.trans h1, h2⟩
  own := fun i d e => by
    obtain ⟨a, o, h1, h2⟩ := E.own i d e
    rcases h i _ e with q | q
    · cases q
    · exact ⟨a, o, q.trans h1, h2⟩
  bor := fun i d e => by
    obtain ⟨v, h1, h2⟩ := E.bor i d e
    rcases h i _ e with q | q
    · cases q
    · exact ⟨v, q.trans h1, h2⟩
  dis := fun i j d d' a h1 h2 h3 h4 => by
    rcases h i _ h1 with q | q
    · cases q
    rcases h j _ h2 with q' | q'
    · cases q'
    exact E.dis i j d d' a h1 h2 (q.symm.trans h3) (q'.symm.trans h4)
theorem wipe_in {j : Nat} : ∀ {is : List Nat} (σ : St), j ∈ is → (L2.wipe σ is)[j]? = if j < σ.length then some none else none
  | i :: is, σ, hj => by
    unfold L2.wipe
    by_cases e : i = j
    · subst e
      by_cases hl : i < σ.length
      · rw [if_pos hl, List.getElem?_set_self (by rw [wipe_length]; exact hl)]
      · rw [if_neg hl, List.getElem?_eq_none (by rw [List.length_set, wipe_length]; omega)]
    · rw [List.getElem?_set_ne e]
      rcases List.mem_cons.mp hj with z | z
      · exact absurd z.symm e
      · exact wipe_in σ z
theorem wipe_wipe (σ : St) (is : List Nat) : L2.wipe (L2.wipe σ is) is = L2.wipe σ is := by
  apply List.ext_getElem?
  intro j
  by_cases hj : j ∈ is
  · rw [wipe_in _ hj, wipe_in _ hj, wipe_length]
  · rw [wipe_out hj]
theorem gnm_tch {is : List Nat} {σ σ' : St} (h : Tch is σ σ') : L2.wipe σ' is = L2.wipe σ is := by
  apply List.ext_getElem?
  intro j
  by_cases hj : j ∈ is
  · rw [wipe_in _ hj, wipe_in _ hj, h.1]
  · rw [wipe_out hj, wipe_out hj]
    exact h.2 j hj
/-- within a comprehension its list is lent -/
theorem RepEnv.lend {G B H : Hp} {σ : St} {env : Env} {D : Addr} {o : HO} (E : RepEnv c G B H σ env) (hb : B D = none) (hH : H D = some o) (hn : ∀ (i : Nat) (d : VS.D), env[i]? = some (Slot.own d) → σ[i]? ≠ some (some (V.ref D))) : RepEnv c G (upd B D o) H σ env where
  gh := E.gh
  bh := fun b u q => by
    by_cases e : b = D
    · subst e
      rw [upd_same] at q
      cases q
      exact hH
    · rw [upd_ne e] at q
      exact E.bh b u q
  len := E.len
  val := E.val
  own := fun i d e => by
    obtain ⟨a, u, h1, h2, h3, h4, h5⟩ := E.own i d e
    have ne : a ≠ D := fun z => hn i d e (by rw [← z]; exact h1)
    exact ⟨a, u, h1, h2, by rw [upd_ne ne]; exact h3, h4, h5⟩
  bor := fun i d e => by
    obtain ⟨v, h1, h2⟩ := E.bor i d e
    exact ⟨v, h1, h2.mono (same_new hb) (Same.refl _)⟩
  dis := E.dis
theorem RepEnv.unlend {G B H : Hp} {σ : St} {env : Env} {D : Addr} {o : HO} (E : RepEnv c G (upd B D o) H σ env) (hb : B D = none) (h : ∀ (i : Nat) (d : VS.D), env[i]? = some (Slot.bor d) → ∃ v, σ[i]? = some (some v) ∧ RD c.K c.w B G v d) : RepEnv c G B H σ env where
  gh := E.gh
  bh := fun b u q => E.bh b u (same_new hb b u q)
  len := E.len
  val := E.val
  own := fun i d e => by
    obtain ⟨a, u, h1, h2, h3, h4, h5⟩ := E.own i d e
    refine ⟨a, u, h1, h2, ?_, h4, h5⟩
    by_cases z : a = D
    · rw [z]; exact hb
    · rw [upd_ne z] at h3; exact h3
  bor := h
  dis := E.dis
theorem RepEnv.ne_lent {G B H : Hp} {σ : St} {env : Env} {D : Addr} {o : HO} (E : RepEnv c G (upd B D o) H σ env) : ∀ (i : Nat) (d : VS.D), env[i]? = some (Slot.own d) → σ[i]? ≠ some (some (V.ref D)) := fun i d e z => by
  obtain ⟨a, u, h1, h2, h3, h4, h5⟩ := E.own i d e
  rw [h1] at z
  cases z
  rw [upd_same] at h3
  cases h3
theorem RepEnv.bump {G B H : Hp} {σ : St} {env : Env} {D : Addr} {o : HO} (E : RepEnv c G B H σ env) (hg : G D = Option.none) (hb : B D = Option.none) (hn : ∀ (i : Nat) (d : VS.D), env[i]? = some (Slot.own d) → σ[i]? ≠ some (some (V.ref D))) : RepEnv c G B (upd H D o) σ env where
  gh := fun b u q => by rw [upd_ne (ne_of_none q hg)]; exact E.gh b u q
  bh := fun b u q => by rw [upd_ne (ne_of_none q hb)]; exact E.bh b u q
  len := E.len
  val := E.val
  own := fun i d e => by
    obtain ⟨a, u, h1, h2, h3, h4, h5⟩ := E.own i d e
    have ne : a ≠ D := fun z => hn i d e (by rw [← z]; exact h1)
    exact ⟨a, u, h1, h2, h3, by rw [upd_ne ne]; exact h4, h5⟩
  bor := E.bor
  dis := E.dis
theorem Ext.unlend {G G' B : Hp} {D : Addr} {o : HO} (x : Ext (upd B D o) G G') (hb : B D = Option.none) : Ext B G G' := ⟨x.1, fun p h => (x.2 p h).imp id fun q o' e' => q o' (by rw [upd_ne (ne_of_none e' hb)]; exact e')⟩
theorem lc_run {X : Cx} (g : Good c X) {tg iter elt : Expr} {ifs : List Expr} {is : List Nat} {it : IT} {gt : GT} {tt : TTt} {te : ET} (hi : VI c tg iter it)
    (hg : VG (c.blk scope) tg is gt) (ht : VTs (c.blk scope) ifs tt) (he : VE (c.blk scope) elt te) {G B H : Hp} {σ : St} {env : Env} {Q : RV → Env → Prop} {Xq : XQ} (E : RepEnv c G B H σ env) (q : eLc it gt tt te is env Q Xq) (tk : Takes X (WXo c G B σ env Xq)) (R : VK) (hR : ∀ v H', VQ c G B σ env Q v H' → R v H') :
    ∃ (mg : TG) (mt : TT) (me : TE),
      (∀ (s : Shared) (H : Hp) (C : Addr) (cl : List (Str × Addr)) (fp : List Addr), PG (X.blk s H scope (compEnvC scope cl C X.env) fp) tg mg) ∧ (∀ (s : Shared) (H : Hp) (C : Addr) (cl : List (Str × Addr)) (fp : List Addr), PTs (X.blk s H scope (compEnvC scope cl C X.env) fp) ifs mt) ∧
      (∀ (s : Shared) (H : Hp) (C : Addr) (cl : List (Str × Addr)) (fp : List Addr), PE (X.blk s H scope (compEnvC scope cl C X.env) fp) elt me) ∧ tLc (TUi X tg iter) mg mt me is σ H R := by
  -- what the parts ask, for whatever block
  refine ⟨fun v σ1 H1 R => ∀ (s : Shared) (H : Hp) (C : Addr) (cl : List (Str × Addr)) (fp : List Addr), TUg (X.blk s H scope (compEnvC scope cl C X.env) fp) tg v σ1 H1 R,
    fun σ1 H1 R => ∀ (s : Shared) (H : Hp) (C : Addr) (cl : List (Str × Addr)) (fp : List Addr), ∃ t : TT, PTs (X.blk s H scope (compEnvC scope cl C X.env) fp) ifs t ∧ t σ1 H1 R,
    fun σ1 H1 R => ∀ (s : Shared) (H : Hp) (C : Addr) (cl : List (Str × Addr)) (fp : List Addr), TU (X.blk s H scope (compEnvC scope cl C X.env) fp) elt σ1 H1 R,
    fun s H C cl fp => ⟨fun pins s' σ' H' v u R I r h => (h s H C cl fp) pins s' u I r⟩, fun s H C cl fp => ⟨fun pins s' σ' H' R I h => ?_⟩, fun s H C cl fp => ⟨fun pins s' σ' H' R I h => (h s H C cl fp) pins s' I⟩, ?_⟩
  · obtain ⟨t, h1, h2⟩ := h s H C cl fp
    exact h1.run pins s' σ' H' R I h2
  refine (hi.run X g G B H σ env _ Xq E q tk).imp fun J H1 ⟨ds, lk, e1, e1', G1, B', q1, E1, x1, k1, L, Wk⟩ => ?_
  have q1 : WC gt tt te is (fun acc e => Q (.fr (.lst acc)) (unl lk e)) ds (wipeE (lockE lk e1) is) := q1
  rw [WC_eq] at q1
  rw [← L.env] at q1
  intro DD hD
  have E1' := L.ok E1
  have gD : G1 DD = none := E1.gh.free hD
  have bD : B' DD = none := E1'.bh.free hD
  -- where the block stands
  refine ⟨fun i m H' => m = ds.length - i ∧ i ≤ ds.length ∧ ∃ e acc vs G', wLc gt tt te is (fun acc e => Q (.fr (.lst acc)) (unl lk e)) (ds.drop i) acc e ∧ RepEnv c G' B' H' (L2.wipe σ is) e ∧ Ext B' G1 G' ∧ H' DD = some (.lst vs) ∧ RepL c.K c.w G' vs acc ∧ G' DD = none ∧
    (∀ (i : Nat) (d : D), e[i]? = some (Slot.own d) → (L2.wipe σ is)[i]? ≠ some (some (V.ref DD))) ∧ ∃ e0, e = wipeE e0 is ∧ ∀ (i : Nat) (d : D), e[i]? = some (Slot.bor d) → e1'[i]? = some (Slot.bor d), ⟨ds.length, by simp, Nat.zero_le _, wipeE e1' is, [], [], G1, by simpa using q1, ?_, Ext.refl _ _, upd_same, .nil, gD, ?_, e1', rfl, ?_⟩, ?_⟩
  · have W := E1'.wipe is
    refine ⟨fun b u z => ?_, fun b u z => ?_, W.len, W.val, fun i d z => ?_, W.bor, W.dis⟩
    · exact same_new hD b u (W.gh b u z)
    · exact same_new hD b u (W.bh b u z)
    · obtain ⟨a, o, h1, h2, h3, h4, h5⟩ := W.own i d z
      exact ⟨a, o, h1, h2, h3, same_new hD _ _ h4, h5⟩
  · intro i d z w
    obtain ⟨a, o, h1, h2, h3, h4, h5⟩ := (E1'.wipe is).own i d z
    rw [w] at h1
    cases h1
    rw [hD] at h4
    cases h4
  · intro i d z
    rcases wipeE_get z with z | ⟨z, _⟩
    · cases z
    · exact z
  rintro i m H' ⟨rfl, hl, e, acc, vs, G', q3, E3, x3, hDD, rl, gDD, nown, e0, he0, hbor⟩
  by_cases hlt : i < ds.length
  · obtain ⟨w1, w2⟩ := Wk.go i ds[i] G' H' (List.getElem?_eq_getElem hlt) E3.gh E3.bh x3.1
    refine .inr ⟨w1, fun H4 => i + 1 ≤ ds.length ∧ ∃ e acc vs G', wLc gt tt te is (fun acc e => Q (.fr (.lst acc)) (unl lk e)) (ds.drop (i + 1)) acc e ∧ RepEnv c G' B' H4 (L2.wipe σ is) e ∧ Ext B' G1 G' ∧ H4 DD = some (.lst vs) ∧ RepL c.K c.w G' vs acc ∧ G' DD = none ∧
      (∀ (i : Nat) (d : D), e[i]? = some (Slot.own d) → (L2.wipe σ is)[i]? ≠ some (some (V.ref DD))) ∧ ∃ e0, e = wipeE e0 is ∧ ∀ (i : Nat) (d : D), e[i]? = some (Slot.bor d) → e1'[i]? = some (Slot.bor d), fun H4 h => ⟨ds.length - (i + 1), by omega, rfl, h⟩, fun x H5 y => ?_⟩
    obtain ⟨G5, res, rx⟩ := w2 x H5 y
    rw [List.drop_eq_getElem_cons hlt] at q3
    have E5 : RepEnv c G5 B' H5 (L2.wipe σ is) e := E3.go res
    have hD5 : H5 DD = some (.lst vs) := res.hh _ _ hDD
    have gD5 : G5 DD = none := res.none gDD ⟨_, hDD, rfl⟩
    have x5 : Ext B' G1 G5 := x3.trans (res.ext E3.bh)
    have E5' : RepEnv (c.blk scope) G5 (upd B' DD (.lst vs)) H5 (L2.wipe σ is) e := (E5.lend bD hD5 nown).blk
    intro s0 H0 C0 cl0 fp0
    have g0 := g.blk (scope := scope) s0 H0 C0 cl0 fp0
    refine (hg.run _ g0 G5 _ H5 _ e ds[i] x _ E5' rx q3).imp fun σ6 H6 ⟨eh, tc, e6, q6, E6, b6⟩ => ?_
    subst eh
    have hw6 : L2.wipe σ6 is = L2.wipe σ is := by
      rw [gnm_tch tc, wipe_wipe]
    have nb6 : ∀ (i : Nat) (d : D), e6[i]? = some (Slot.bor d) → e1'[i]? = some (Slot.bor d) := fun i d h => hbor i d (b6 i d h).1
    -- a turn's end
    have fin : ∀ {G7 H7 : Hp} {e7 : Env}, RepEnv (c.blk scope) G7 (upd B' DD (.lst vs)) H7 σ6 e7 → Ext (upd B' DD (.lst vs)) G5 G7 → (∀ (i : Nat) (d : D), e7[i]? = some (Slot.bor d) → e6[i]? = some (Slot.bor d)) →
        RepEnv c G7 B' H7 (L2.wipe σ is) (wipeE e7 is) ∧ Ext B' G1 G7 ∧ H7 DD = some (.lst vs) ∧ G7 DD = none ∧ (∀ (i : Nat) (d : D), (wipeE e7 is)[i]? = some (Slot.own d) → (L2.wipe σ is)[i]? ≠ some (some (V.ref DD))) ∧ ∀ (i : Nat) (d : D), (wipeE e7 is)[i]? = some (Slot.bor d) → e1'[i]? = some (Slot.bor d) := fun {G7 H7 e7} E7 x7 b7 => by
      have W7 := E7.unblk.wipe is
      rw [hw6] at W7
      have hb7 : ∀ (i : Nat) (d : D), (wipeE e7 is)[i]? = some (Slot.bor d) → e1'[i]? = some (Slot.bor d) := fun i d h => by
        rcases wipeE_get h with h | ⟨h, _⟩
        · cases h
        · exact nb6 i d (b7 i d h)
      have x17 : Ext B' G1 G7 := x5.trans (x7.unlend bD)
      refine ⟨W7.unlend bD fun i d h => ?_, x17, W7.bh _ _ upd_same, x7.none gD5 ⟨_, upd_same, rfl⟩, W7.ne_lent, hb7⟩
      obtain ⟨v, h1, h2⟩ := E1'.bor i d (hb7 i d h)
      rcases wipeE_get h with h | ⟨h, hi⟩
      · cases h
      · exact ⟨v, by rw [wipe_out hi]; exact h1, h2.mono (Same.refl _) x17.1⟩
    refine ⟨hw6, fun s1 H1 C1 cl1 fp1 => ?_⟩
    have g1 := g.blk (scope := scope) s1 H1 C1 cl1 fp1
    obtain ⟨mt, hmt, hmq⟩ := ht.run _ g1
    have tk1 : ∀ {s1 : Shared} {H1 : Hp} {C1 : Addr} {cl1 : List (Str × Addr)} {fp1 : List Addr} {G B : Hp} {σ : St} {env : Env}, Takes (X.blk s1 H1 scope (compEnvC scope cl1 C1 X.env) fp1) (WXo (c.blk scope) G B σ env noX) := fun {s1 H1 C1 cl1 fp1 G B σ env} u s' ⟨_, _, _, _, _, _, _, _, _, _, _, _, _, _, _, _, w⟩ => by
      obtain ⟨_, _, _, q, _⟩ := w
      exact q.elim
    refine ⟨mt, hmt, hmq G5 _ H6 σ6 e6 _ noX E6 q6 tk1 _ fun b H7 ⟨e7, G7, q7, E7, x7, k7⟩ => ?_⟩
    cases b with
    | false =>
      simp only [Bool.false_eq_true, if_false] at q7 ⊢
      obtain ⟨f1, f2, f3, f4, f5, f6⟩ := fin E7 x7 k7.2
      exact ⟨hlt, _, _, vs, G7, q7, f1, f2, f3, rl.mono (res.gg.trans x7.1), f4, f5, e7, rfl, f6⟩
    | true =>
      simp only [if_true] at q7 ⊢
      intro s2 H2 C2 cl2 fp2
      refine (he.run _ (g.blk (scope := scope) s2 H2 C2 cl2 fp2) G7 _ H7 σ6 e7 _ noX E7 q7 tk1).imp fun y H8 ⟨rv, e8, G8, ⟨dv, e9, q8, hz, q9⟩, E8, x8, k8, r8⟩ => ?_
      obtain ⟨G9, x9, E9, r9, k9⟩ := RepR.fz E8 r8 q8
      obtain ⟨f1, f2, f3, f4, f5, f6⟩ := fin E9 ((x7.trans x8).trans x9) fun i d h => k7.2 i d (k8.2 i d (k9.2 i d h))
      have rl9 : RepL c.K c.w G9 vs acc := rl.mono ((res.gg.trans x7.1).trans (x8.1.trans x9.1))
      exact ⟨vs, f3, by rw [rl9.length]; exact hz, hlt, _, _, vs ++ [y], G9, q9, f1.bump f4 bD f5, f2, upd_same, rl9.append (.cons r9 .nil), f4, f5, e9, rfl, f6⟩
  · have e' : i = ds.length := by omega
    subst e'
    refine .inl ⟨Wk.stop G' H' E3.gh E3.bh x3.1, ?_⟩
    rw [List.drop_length] at q3
    have q3 : Q (.fr (.lst acc)) (unl lk e) := q3
    have hin : ∀ (i : Nat) (s : Slot), e[i]? = some s → s = .emp ∨ σ[i]? = (L2.wipe σ is)[i]? := fun i s h => by
      rw [he0] at h
      rcases wipeE_get h with h | ⟨_, hi⟩
      · exact .inl h
      · exact .inr (wipe_out hi).symm
    have E4 : RepEnv c G' B' H' σ e := E3.back (wipe_length _ _).symm hin
    obtain ⟨u1, u2, u3, u4⟩ := L.un E1 E4 x3 fun i d h => ⟨hbor i d h, rfl⟩
    refine hR _ _ ⟨_, _, G', q3, u1, x1.trans u2, ⟨u1.len.symm.trans E.len, fun i d h => k1.2 i d (u3 i d h).1⟩, u4 _ _ ⟨DD, _, rfl, gDD, bD, hDD, ⟨vs, rfl, rl⟩, fun i d h => ?_⟩⟩
    rcases hin i _ h with z | z
    · cases z
    · rw [z]
      exact nown i d h
/-- as a value -/
theorem ve_lc0 {tg iter elt : Expr} {ifs : List Expr} {own : List (Str × Nat)} {pos : Pos} {it : IT} {gt : GT} {tt : TTt} {te : ET} (hi : VI c tg iter it) (hk : blkC c.N c.scope scope own = true)
    (hg : VG (c.blk scope) tg (own.map (·.2)) gt) (ht : VTs (c.blk scope) ifs tt) (he : VE (c.blk scope) elt te) (hs : ∀ (env : PySem.Env) x, foldedSetIterable iter env x = pure x) (hc : c.calm = true := by rfl) : VE c (.ListComp elt [⟨tg, iter, ifs, 0⟩] scope pos) (eLc it gt tt te (own.map (·.2))) := by
  constructor
  intro X g G B H σ env Q Xq E q tk
  obtain ⟨mg, mt, me, h1, h2, h3, h4⟩ := lc_run (scope := scope) g hi hg ht he E q tk _ fun _ _ h => h
  exact TU.of (pe_lc (own := own) (g.calm hc) g.nd (pi_tu (tg := tg) (iter := iter)) (by rw [g.N, g.scope]; exact blkOk_by hk) h1 h2 h3 (fun x => hs X.env x)) h4
theorem vs_setLc0 {i : Nat} {y : Str} {py : Pos} {tg iter elt : Expr} {ifs : List Expr} {own : List (Str × Nat)} {pos spos : Pos} {it : IT} {gt : GT} {tt : TTt} {te : ET} (hy : StoC c i y) (hyl : c.scope.names.lookup y = some .local) (hi : VI c tg iter it) (hk : blkC c.N c.scope scope own = true)
    (hsw : ∀ X : Cx, Good c X → swapsWith (.ListComp elt [⟨tg, iter, ifs, 0⟩] scope pos) (some (.Name y py)) spos.line X.env = pure true)
    (hg : VG (c.blk scope) tg (own.map (·.2)) gt) (ht : VTs (c.blk scope) ifs tt) (he : VE (c.blk scope) elt te) (hs : ∀ (env : PySem.Env) x, foldedSetIterable iter env x = pure x) (hc : c.calm = true := by rfl) : VS1 c (.Assign [.Name y py] (.ListComp elt [⟨tg, iter, ifs, 0⟩] scope pos) spos) (sSet i (eLc it gt tt te (own.map (·.2)))) := by
  constructor
  intro X g G B H σ env D E q tk pins s I
  have hl : i < env.length := by
    rw [← E.len, I.len, g.N]
    exact (List.getElem?_eq_some_iff.mp hy.1).1
  obtain ⟨mg, mt, me, h1, h2, h3, h4⟩ := lc_run (Q := fun rv e1 => ∃ e2, VS.asgN i rv e1 = some e2 ∧ D.nx e2) (scope := scope) g hi hg ht he E q tk (fun v H1 => EN c G B σ env D.nx (σ.set i (some v)) H1) fun v H1 ⟨rv, e1, G1, ⟨e2, qa, qn⟩, E1, x1, k1, r1⟩ => by
    obtain ⟨G', x2, E2, b2⟩ := E1.asgN (by rw [k1.1]; exact hl) r1 qa
    exact ⟨e2, G', qn, E2, x1.trans x2, BorS.trans (k1.bors σ) b2⟩
  exact (ps_setLc (own := own) (g.calm hc) g.nd (by rw [g.N]; exact hy.1) (by rw [g.scope]; exact hyl) (hsw X g) (pi_tu (tg := tg) (iter := iter)) (by rw [g.N, g.scope]; exact blkOk_by hk) h1 h2 h3 (fun x => hs X.env x)).run pins s σ H _ I h4
/-! names within a block of a def, and within a block of a block -/
theorem visK {k : Nat} {N : List Str} {sc : Scope} {i : Nat} {x : Str} (h : visB N (relS scope sc) i x = true) : VisC ((c.inn k N sc).blk scope) i x := visC_of h
theorem stoK {k : Nat} {N : List Str} {sc : Scope} {i : Nat} {x : Str} (h : stoB N (relS scope sc) (fun x => scope.names.lookup x == some .cell) i x = true) : StoC ((c.inn k N sc).blk scope) i x := stoC_of h
theorem glK {k : Nat} {N : List Str} {sc : Scope} {x : Str} (h : glB (relS scope sc) x = true) : GlC ((c.inn k N sc).blk scope) x := glC_of h
theorem bltK {k : Nat} {N : List Str} {sc : Scope} {x : Str} {u : Value} (m : c.mg x = none) (h1 : glB (relS scope sc) x = true) (h2 : okV u x = true) (h3 : decide (x = "__name__") = false) (h4 : (x == ("__debug__" : Str)) = false) : BltC ((c.inn k N sc).blk scope) x u := ⟨glC_of h1, m, okV_of h2, of_decide_eq_false h3, h4⟩
theorem FnC.blk {k : Nat} {N : List Str} {sc : Scope} {x : Str} {ms : List Bool} {F : FSp} (h : FnC (c.lv k) x ms F) : FnC ((c.inn k N sc).blk scope) x ms F := ⟨h.ex⟩
theorem Glb.blk {k : Nat} {N : List Str} {sc : Scope} {x : Str} {d : D} (h : Glb c x d) : Glb ((c.inn k N sc).blk scope) x d := ⟨h.ex⟩
section
variable {s2 : Scope}
theorem visK2 {k : Nat} {N : List Str} {sc : Scope} {i : Nat} {x : Str} (h : visB N (relS s2 (relS scope sc)) i x = true) : VisC (((c.inn k N sc).blk scope).blk s2) i x := visC_of h
theorem stoK2 {k : Nat} {N : List Str} {sc : Scope} {i : Nat} {x : Str} (h : stoB N (relS s2 (relS scope sc)) (fun x => s2.names.lookup x == some .cell) i x = true) : StoC (((c.inn k N sc).blk scope).blk s2) i x := stoC_of h
end
/-! the forms that are written -/
theorem ve_lc {k : Nat} {N : List Str} {sc : Scope} {tg iter elt : Expr} {ifs : List Expr} {own : List (Str × Nat)} {pos : Pos} {it : IT} {gt : GT} {tt : TTt} {te : ET} (hi : VI (c.inn k N sc) tg iter it) (hk : blkC N sc scope own = true)
    (hg : VG ((c.inn k N sc).blk scope) tg (own.map (·.2)) gt) (ht : VTs ((c.inn k N sc).blk scope) ifs tt) (he : VE ((c.inn k N sc).blk scope) elt te) (hs : ∀ (env : PySem.Env) x, foldedSetIterable iter env x = pure x := by intros; rfl) : VE (c.inn k N sc) (.ListComp elt [⟨tg, iter, ifs, 0⟩] scope pos) (eLc it gt tt te (own.map (·.2))) :=
  ve_lc0 hi hk hg ht he hs
theorem ve_lcK {s1 : Scope} {k : Nat} {N : List Str} {sc : Scope} {tg iter elt : Expr} {ifs : List Expr} {own : List (Str × Nat)} {pos : Pos} {it : IT} {gt : GT} {tt : TTt} {te : ET} (hi : VI ((c.inn k N sc).blk s1) tg iter it) (hk : blkC N (relS s1 sc) scope own = true)
    (hg : VG (((c.inn k N sc).blk s1).blk scope) tg (own.map (·.2)) gt) (ht : VTs (((c.inn k N sc).blk s1).blk scope) ifs tt) (he : VE (((c.inn k N sc).blk s1).blk scope) elt te) (hs : ∀ (env : PySem.Env) x, foldedSetIterable iter env x = pure x := by intros; rfl) : VE ((c.inn k N sc).blk s1) (.ListComp elt [⟨tg, iter, ifs, 0⟩] scope pos) (eLc it gt tt te (own.map (·.2))) :=
  ve_lc0 hi hk hg ht he hs
def setLcB (sc scope : Scope) (y : Str) (l1 l2 : Bool) : Bool := (match sc.kind with | .function => true | _ => false) && (match sc.names.lookup y with | some .local => true | _ => false) && !(scope.names.any fun (n, k) => n == y && (k == .local || k == .cell))
theorem vs_setLc {k : Nat} {N : List Str} {sc : Scope} {i : Nat} {y : Str} {py : Pos} {tg iter elt : Expr} {ifs : List Expr} {own : List (Str × Nat)} {pos spos : Pos} {it : IT} {gt : GT} {tt : TTt} {te : ET} (hy : StoC (c.inn k N sc) i y) (hb : setLcB sc scope y true true = true) (hi : VI (c.inn k N sc) tg iter it) (hk : blkC N sc scope own = true)
    (hg : VG ((c.inn k N sc).blk scope) tg (own.map (·.2)) gt) (ht : VTs ((c.inn k N sc).blk scope) ifs tt) (he : VE ((c.inn k N sc).blk scope) elt te) (hl : (py.line == pos.line) = true := by rfl) (hs : ∀ (env : PySem.Env) x, foldedSetIterable iter env x = pure x := by intros; rfl) :
    VS1 (c.inn k N sc) (.Assign [.Name y py] (.ListComp elt [⟨tg, iter, ifs, 0⟩] scope pos) spos) (sSet i (eLc it gt tt te (own.map (·.2)))) := by
  unfold setLcB at hb
  simp only [Bool.and_eq_true, Bool.not_eq_true'] at hb
  obtain ⟨⟨b1, b2⟩, b3⟩ := hb
  have k1 : sc.kind = .function := by
    split at b1
    · assumption
    · cases b1
  have k2 : sc.names.lookup y = some .local := by
    split at b2
    · assumption
    · cases b2
  exact vs_setLc0 hy k2 hi hk (fun X g => sw_true (by rw [g.scope]; exact k1) (by rw [g.scope]; exact k2) hl b3) hg ht he hs
end
end VS

namespace VS
open PySem PySem.Spec L2

/-! ### values of lists of one kind -/
section
variable {K : PySem.W.Frag} {w : World} {G : Hp}
theorem repL_intsI : ∀ {ns : List Int} {vs : List V}, RepL K w G vs (ns.map D.int) → vs = ns.map V.int
  | [], _, h => by cases h; rfl
  | n :: ns, _, h => by
    cases h with
    | cons q r =>
      cases q
      rw [repL_intsI r]; rfl
theorem repL_strsI : ∀ {ns : List Str} {vs : List V}, RepL K w G vs (ns.map D.str) → vs = ns.map V.str
  | [], _, h => by cases h; rfl
  | n :: ns, _, h => by
    cases h with
    | cons q r =>
      cases q
      rw [repL_strsI r]; rfl
end
section
variable {c : Cfg}
/-- one list argument -/
theorem seqD {G H : Hp} {v : V} {d : D} {ds : List D} (s : Same G H) (h : RD c.K c.w H G v d) (e : (d = .lst ds) ∨ (d = .tup ds) ∨ (d = .ktup ds)) : ∃ a vs, v = .ref a ∧ (SqL c.K H a vs ∨ SqT c.K H a vs) ∧ RepL c.K c.w G vs ds := by
  rcases e with e | e | e <;> subst e
  · obtain ⟨a, vs, rfl, hq, rr⟩ := h
    exact ⟨a, vs, rfl, .inl hq, rr⟩
  · cases (show Rep c.K c.w G v (.tup ds) from h) with
    | @tup a vs _ hq rr => exact ⟨a, vs, rfl, .inr (SqT.of (s _ _ hq)), rr⟩
  · cases (show Rep c.K c.w G v (.ktup ds) from h) with
    | @ktup a vs _ hq rr => exact ⟨a, vs, rfl, .inr (.inr hq), rr⟩

/-! ### tuple, list -/
def opTuple : List D → (RV → Prop) → Prop
  | [.lst xs], Q => Q (.val (.tup xs))
  | [.tup xs], Q => Q (.val (.tup xs))
  | [.ktup xs], Q => Q (.val (.ktup xs))
  | _, _ => False
def rTuple (K : PySem.W.Frag) : List V → Hp → VK → Prop := fun xs H Q => ∃ p ys, xs = [.ref p] ∧ ((SqL K H p ys ∧ ∀ l, H l = none → Q (.ref l) (upd H l (.tup ys))) ∨ (SqT K H p ys ∧ Q (.ref p) H))
theorem tuple_s : OpSn c (rTuple c.K) opTuple := by
  intro G H xs ds P K s r o f
  unfold opTuple at o
  split at o
  · cases r with
    | cons h r =>
    cases r
    obtain ⟨a, vs, rfl, hq, rr⟩ := h
    exact ⟨a, vs, rfl, .inl ⟨hq, f.tup s o rr⟩⟩
  · cases r with
    | cons h r =>
    cases r
    have h0 := h
    cases (show Rep c.K c.w G _ _ from h) with
    | @tup a vs _ hq rr => exact ⟨a, vs, rfl, .inr ⟨SqT.of (s _ _ hq), f.val s o h0⟩⟩
  · cases r with
    | cons h r =>
    cases r
    have h0 := h
    cases (show Rep c.K c.w G _ _ from h) with
    | @ktup a vs _ hq rr => exact ⟨a, vs, rfl, .inr ⟨.inr hq, f.val s o h0⟩⟩
  · exact o.elim
theorem r_tuple {X : Cx} (g : Good c X) : CallR X (.type "tuple") (rTuple c.K) := by rw [← g.K]; exact call_tuple_of
def opList : List D → (RV → Prop) → Prop
  | [.lst xs], Q => Q (.fr (.lst xs))
  | [.tup xs], Q => Q (.fr (.lst xs))
  | [.ktup xs], Q => Q (.fr (.lst xs))
  | _, _ => False
def rList (K : PySem.W.Frag) : List V → Hp → VK → Prop := fun xs H Q => ∃ p ys, xs = [.ref p] ∧ (SqL K H p ys ∨ SqT K H p ys) ∧ ∀ l, H l = none → Q (.ref l) (upd H l (.lst ys))
theorem list_s : OpSn c (rList c.K) opList := by
  intro G H xs ds P K s r o f
  unfold opList at o
  split at o
  all_goals first
    | exact o.elim
    | (cases r with
       | cons h r =>
       cases r
       obtain ⟨a, vs, rfl, hq, rr⟩ := seqD s h (by first | exact .inl rfl | exact .inr (.inl rfl) | exact .inr (.inr rfl))
       exact ⟨a, vs, rfl, hq, f.lst s o rr⟩)
theorem r_list {X : Cx} (g : Good c X) : CallR X (.type "list") (rList c.K) := by rw [← g.K]; exact call_list_of

/-! ### sum, max, min, all, any of a list -/
def opSum : List D → (RV → Prop) → Prop
  | [.lst xs], Q => ∃ ns : List Int, xs = ns.map D.int ∧ Q (.val (.int ns.sum))
  | _, _ => False
theorem sum_s : OpSn c (rSum c.K) opSum := by
  intro G H xs ds P K s r o f
  unfold opSum at o
  split at o
  · obtain ⟨ns, rfl, p⟩ := o
    cases r with
    | cons h r =>
    cases r
    obtain ⟨a, vs, rfl, hq, rr⟩ := h
    obtain rfl := repL_intsI rr
    exact ⟨a, ns, rfl, hq, f.val s p (.int _)⟩
  · exact o.elim
theorem r_sum {X : Cx} (g : Good c X) (hc : c.calm = true := by rfl) : CallR X (.builtin "sum") (rSum c.K) := by rw [← g.K]; exact cr_sum (g.calm hc)
def opMax1 : List D → (RV → Prop) → Prop
  | [.lst xs], Q => ∃ ns : List Int, xs = ns.map D.int ∧ 0 < ns.length ∧ ∀ m, m ∈ ns → (∀ y, y ∈ ns → y ≤ m) → Q (.val (.int m))
  | _, _ => False
theorem max_s : OpSn c (rMax c.K) opMax1 := by
  intro G H xs ds P K s r o f
  unfold opMax1 at o
  split at o
  · obtain ⟨ns, rfl, h0, p⟩ := o
    cases r with
    | cons h r =>
    cases r
    obtain ⟨a, vs, rfl, hq, rr⟩ := h
    obtain rfl := repL_intsI rr
    exact ⟨a, ns, rfl, hq, h0, fun m h1 h2 => f.val s (p m h1 h2) (.int _)⟩
  · exact o.elim
theorem r_max {X : Cx} (g : Good c X) (hc : c.calm = true := by rfl) : CallR X (.builtin "max") (rMax c.K) := by rw [← g.K]; exact cr_max (g.calm hc)
def opMin1 : List D → (RV → Prop) → Prop
  | [.lst xs], Q => ∃ ns : List Int, xs = ns.map D.int ∧ 0 < ns.length ∧ ∀ m, m ∈ ns → (∀ y, y ∈ ns → m ≤ y) → Q (.val (.int m))
  | _, _ => False
def opAll : List D → (RV → Prop) → Prop
  | [.lst xs], Q => ∃ bs : List Bool, xs = bs.map D.bl ∧ Q (.val (.bl (bs.all id)))
  | _, _ => False
def opAny : List D → (RV → Prop) → Prop
  | [.lst xs], Q => ∃ bs : List Bool, xs = bs.map D.bl ∧ Q (.val (.bl (bs.any id)))
  | _, _ => False
/-! ### int, str, divmod -/
def opInt : List D → (RV → Prop) → Prop
  | [.int i], Q => Q (.val (.int i))
  | [.bl k], Q => Q (.val (.int (if k then 1 else 0)))
  | [.str a], Q => ∃ n, PySem.intText? a = some n ∧ a.length ≤ 640 ∧ Q (.val (.int n))
  | _, _ => False
def rInt : List V → Hp → VK → Prop := fun xs H Q => ((∃ i, xs = [.int i] ∧ Q (.int i) H) ∨ ∃ k, xs = [.bl k] ∧ Q (.int (if k then 1 else 0)) H) ∨ ∃ a n, xs = [.str a] ∧ PySem.intText? a = some n ∧ a.length ≤ 640 ∧ Q (.int n) H
def opStr : List D → (RV → Prop) → Prop
  | [.int i], Q => i.natAbs.log2 < 1920 ∧ Q (.val (.str (toString i)))
  | _, _ => False
def opDivmod : List D → (RV → Prop) → Prop
  | [.int i, .int j], Q => CDiv i j ∧ Q (.val (.tup [.int (i / j), .int (i % j)]))
  | _, _ => False
theorem divmod_s : OpSn c (fun xs H Q => ∃ i j, xs = [.int i, .int j] ∧ CDiv i j ∧ ∀ p, H p = none → Q (.ref p) (upd H p (.tup [.int (i / j), .int (i % j)]))) opDivmod := by
  intro G H xs ds P K s r o f
  unfold opDivmod at o
  split at o
  · cases r with
    | cons h r =>
    cases r with
    | cons h' r =>
    cases r
    cases h
    cases h'
    exact ⟨_, _, rfl, o.1, f.tup s o.2 (.cons (.int _) (.cons (.int _) .nil))⟩
  · exact o.elim
theorem r_divmod {X : Cx} (g : Good c X) : CallR X (.builtin "divmod") (fun xs H Q => ∃ i j, xs = [.int i, .int j] ∧ CDiv i j ∧ ∀ p, H p = none → Q (.ref p) (upd H p (.tup [.int (i / j), .int (i % j)]))) := call_divmod

/-! ### methods -/
def opJoin : D → List D → (RV → Prop) → Prop
  | .str a, [.lst ds], Q => ∃ ys : List Str, ds = ys.map D.str ∧ (ys.map (·.length)).sum + ys.length * a.length ≤ 16777216 ∧ Q (.val (.str (Txt.join a ys)))
  | .str a, [.tup ds], Q => ∃ ys : List Str, ds = ys.map D.str ∧ (ys.map (·.length)).sum + ys.length * a.length ≤ 16777216 ∧ Q (.val (.str (Txt.join a ys)))
  | _, _, _ => False
def rJoin (K : PySem.W.Frag) : V → List V → Hp → VK → Prop := fun x xs H Q => ∃ a p, ∃ ys : List Str, x = .str a ∧ xs = [.ref p] ∧ (SqL K H p (ys.map V.str) ∨ SqT K H p (ys.map V.str)) ∧
    (ys.map (·.length)).sum + ys.length * a.length ≤ 16777216 ∧ Q (.str (Txt.join a ys)) H
theorem join_s : OpSm c (rJoin c.K) opJoin := by
  intro G H x xs d ds P K s rx rs o f
  unfold opJoin at o
  split at o
  all_goals first
    | exact o.elim
    | (obtain ⟨ys, rfl, hz, p⟩ := o
       cases rs with
       | cons h r =>
       cases r
       cases rx
       obtain ⟨a, vs, rfl, hq, rr⟩ := seqD s h (by first | exact .inl rfl | exact .inr (.inl rfl))
       obtain rfl := repL_strsI rr
       exact ⟨_, a, ys, rfl, rfl, hq, hz, f.val s p (.str _)⟩)
theorem r_join {X : Cx} (g : Good c X) : MtR X "str.join" (rJoin c.K) := by rw [← g.K]; exact mt_join
def flatD : D → Bool
  | .lst _ => false
  | .dic _ _ => false
  | .dix _ => false
  | _ => true
def opGet : D → List D → (RV → Prop) → Prop
  | .dic t kvs, [k], Q => keyOk t k = true ∧ Q (.val ((dget kvs k).getD .non))
  | .dic t kvs, [k, d], Q => keyOk t k = true ∧ flatD d = true ∧ Q (.val ((dget kvs k).getD d))
  | _, _, _ => False
def rGet : V → List V → Hp → VK → Prop := fun x xs H Q => ∃ a y o, x = .ref a ∧ DGet H a y o ∧ ((xs = [y] ∧ Q (o.getD .non) H) ∨ ∃ z, xs = [y, z] ∧ Q (o.getD z) H)
theorem r_get {X : Cx} (g : Good c X) : MtR X "dict.get" rGet := by
  intro pins s σ H x xs v us Q I rx rs h
  obtain ⟨a, y, o, rfl, hg, h⟩ := h
  obtain rfl : v = Value.ref a := rx
  have hu := g.hu
  rcases h with ⟨rfl, q⟩ | ⟨z, rfl, q⟩
  · obtain ⟨u, rfl, ru⟩ := vals1 rs
    exact d_get1 hu I hg ru fun w' s' I' rw' => ⟨_, H, I', rw', q⟩
  · obtain ⟨u, u2, rfl, ru, ru2⟩ := vals2 rs
    exact d_get2 hu I hg ru ru2 fun w' s' I' rw' => ⟨_, H, I', rw', q⟩
theorem flat_rep {G H : Hp} {v : V} {d : D} (h : RD c.K c.w H G v d) (hf : flatD d = true) : Rep c.K c.w G v d := by
  cases d <;> first | exact h | cases hf
theorem get_s : OpSm c rGet opGet := by
  intro G H x xs d ds P K s rx rs o f
  unfold opGet at o
  split at o
  · cases rs with
    | cons h r =>
    cases r
    have rk := keyOk_rep o.1 h
    obtain ⟨a, ov, rfl, hg, hr⟩ := RD.get s rx o.1 rk
    refine ⟨a, _, ov, rfl, hg, .inl ⟨rfl, f.val s o.2 ?_⟩⟩
    revert hr
    generalize dget _ _ = od
    intro hr
    cases ov <;> cases od <;> simp [RelD] at hr
    · exact .non
    · exact hr
  · obtain ⟨o1, o2, o3⟩ := o
    cases rs with
    | cons h r =>
    cases r with
    | cons h' r =>
    cases r
    have rk := keyOk_rep o1 h
    obtain ⟨a, ov, rfl, hg, hr⟩ := RD.get s rx o1 rk
    refine ⟨a, _, ov, rfl, hg, .inr ⟨_, rfl, f.val s o3 ?_⟩⟩
    revert hr
    generalize dget _ _ = od
    intro hr
    cases ov <;> cases od <;> simp [RelD] at hr
    · exact flat_rep h' o2
    · exact hr
  · exact o.elim
def opUpper : D → List D → (RV → Prop) → Prop
  | .str a, [], Q => a.length ≤ 5592405 ∧ Q (.val (.str (Txt.upper a)))
  | _, _, _ => False
def opSplit : D → List D → (RV → Prop) → Prop
  | .str a, [.str b], Q => (b.length == 0) = false ∧ a.length + 2 ≤ sizeLine ∧ Q (.fr (.lst ((Txt.split a b).map D.str)))
  | _, _, _ => False
def rSplit : V → List V → Hp → VK → Prop := fun x xs H Q => ∃ a b, x = .str a ∧ xs = [.str b] ∧ (b.length == 0) = false ∧ a.length + 2 ≤ sizeLine ∧ rNewStrs (Txt.split a b) H Q
/-! ### x.clear(), x a dict of ours, or a list of ours -/
variable {pos : Pos}
def rClrD : V → List V → Hp → VK → Prop := fun x vs H Q => ∃ a, x = .ref a ∧ vs = [] ∧ ((∃ kvs, H a = some (.dK kvs) ∧ Q .non (upd H a (.dK []))) ∨ ∃ kvs, H a = some (.dT kvs) ∧ Q .non (upd H a (.dT [])))
/-- x.clear(), x a dict of ours -/
def eClrD (i : Nat) : ET := fun env Q _ => ∃ t kvs e', env[i]? = some (.own (.dic t kvs)) ∧ env.set i (.own (.dic t [])) = e' ∧ Q (.val .non) e'
/-- x.clear(), x.reverse(), x a list of ours -/
def eClrL (i : Nat) : ET := fun env Q _ => ∃ ds e', env[i]? = some (.own (.lst ds)) ∧ env.set i (.own (.lst [])) = e' ∧ Q (.val .non) e'
def eRevL (i : Nat) : ET := fun env Q _ => ∃ ds e', env[i]? = some (.own (.lst ds)) ∧ env.set i (.own (.lst ds.reverse)) = e' ∧ Q (.val .non) e'
/-- x.extend(e), e a new list -/
def eExt (i : Nat) (t : ET) : ET := fun env Q Xq => ∃ ds0, env[i]? = some (.own (.lst ds0)) ∧ t env (fun rv e1 => ∃ es ds, rv = .fr (.lst es) ∧ e1[i]? = some (.own (.lst ds)) ∧ ds.length + es.length ≤ sizeLine ∧ ∃ e3, e1.set i (.own (.lst (ds ++ es))) = e3 ∧ Q (.val .non) e3) Xq
theorem ve_ext {i : Nat} {x : Str} {p apos : Pos} {e : Expr} {t : ET} (hx : VisC c i x) (h : VE c e t) (hn : noStar e = true := by rfl) (hline : (apos.endLine == pos.line) = true := by rfl) :
    VE c (.Call (.Attribute (.Name x p) "extend" apos) [e] [] pos) (eExt i t) := by
  constructor
  intro X g G B H σ env Q Xq E q tk
  obtain ⟨h1, h2, h3, h4⟩ := hx
  have hs := star_cons (es := []) (env := X.env) hn
  refine TU.of (pe_bm PySem.F.plainAttrs_list PySem.F.slot_list_extend PySem.F.type_list_extend mt_extend (pe_var (i := i) (x := x) (by rw [g.N]; exact h1) (by rw [g.scope]; exact h2) h3 h4) (pa_cons (pe_tu (e := e)) pa_nil hs) (by rfl) (by rw [hs]; rfl) hline hs (by rfl)) ?_
  obtain ⟨ds0, e0, q⟩ := q
  obtain ⟨a, o, k1, q1, q2, q3, vs, rfl, r⟩ := E.own i _ e0
  refine ⟨_, k1, .inl ⟨rfl, _, .inl (.inl q3)⟩, ?_⟩
  refine (h.run X g G B H σ env _ Xq E q tk).imp fun v H1 ⟨rv, e1, G1, ⟨es, ds, er, qe, ql, e3, qs, qn⟩, E1, x1, k1', r1⟩ => ?_
  subst qs
  subst er
  obtain ⟨b, ob, rfl, m0, mB, m2, ⟨zs, rfl, rz⟩, m3⟩ := r1
  obtain ⟨b', ob', n1, n2, n3, n4, ws, rfl, rr⟩ := E1.own i _ qe
  rw [k1] at n1
  cases n1
  refine ⟨a, b, ws, zs, rfl, rfl, n4, m2, by rw [rr.length, rz.length]; exact ql, ?_⟩
  exact ⟨_, _, G1, qn, E1.setOwn qe k1 ⟨_, rfl, rr.append rz⟩, x1, k1'.trans (keeps_own qe), Rep.non⟩
/-- a method of a built-in type without arguments -/
def eMth0 (T : String) (op : D → List D → (RV → Prop) → Prop) (to : ET) : ET := fun env Q Xq => to env (fun r e1 => ∃ d, rd e1 r = some d ∧ tyM T d = true ∧ op d [] fun r => Q r e1) Xq
def rUpper : V → List V → Hp → VK → Prop := fun x xs H Q => ∃ a, x = .str a ∧ xs = [] ∧ a.length ≤ 5592405 ∧ Q (.str (Txt.upper a)) H
end
end VS

namespace VS
open PySem PySem.Spec L2

/-! ### {k: v}, k a tuple of ints and texts -/
def eDic1 (tk tv : ET) : ET := fun env Q _ => tk env (fun rk e1 => tv e1 (fun rv e2 => ∃ dv e3 dk, fz e2 rv.hold = some (dv, e3) ∧ rd e3 rk.hold.hold = some dk ∧ isKT dk = true ∧ Q (.fr (.dic true [(dk, dv)])) e3) noX) noX
theorem takes_no {c : Cfg} {X : Cx} {G B : Hp} {σ : St} {env : Env} : Takes X (WXo c G B σ env noX) := fun u s' ⟨_, _, _, _, _, _, _, _, _, _, _, _, _, _, _, _, w⟩ => by
  obtain ⟨_, _, _, q, _⟩ := w
  exact q.elim
section
variable {c : Cfg} {pos : Pos} {k v : Expr} {tk tv : ET}
theorem ve_dic1 (hk : VE c k tk) (hv : VE c v tv) : VE c (.Dict [some k] [v] pos) (eDic1 tk tv) := by
  constructor
  intro X g G B H σ env Q Xq E q tkk pins s I
  have hn : H s.heap.objs.size = none := I.hok.fresh (Nat.le_refl s.heap.objs.size)
  have I1 := I.laid (a := s.heap.objs.size) (o := .dT []) (h' := s.heap.push { cls := .type "dict", data := .dict #[] }) (t' := s.toks) (fun _ _ q => Heap.get?_push_of_some _ q) (Nat.le_refl _) (dt_empty s.heap I.big)
  have hsz := I.big
  generalize hD : s.heap.objs.size = DD at hn I1
  have gD : G DD = none := E.gh.free hn
  have bD : B DD = none := E.bh.free hn
  have nown : ∀ (i : Nat) (d : D), env[i]? = some (Slot.own d) → σ[i]? ≠ some (some (V.ref DD)) := fun i d z w => by
    obtain ⟨a, o, h1, h2, h3, h4, h5⟩ := E.own i d z
    rw [w] at h1
    cases h1
    rw [hn] at h4
    cases h4
  have E1 : RepEnv c G (upd B DD (.dT [])) (upd H DD (.dT [])) σ env := (E.bump gD bD nown).lend bD upd_same nown
  rw [arm_eval_Dict, zip_pairTrees [some k] [v] X.env pos rfl rfl, dictDisplay_pairs _ (by simp [pairTrees]) (by simp [pairTrees])]
  refine wpAny_bind (wpAny_standAt (wpAny_bind ?_))
  unfold subDict
  refine wpAny_bind (wpAny_alloc ?_)
  rw [hD]
  refine wpAny_bind (wpAny_holding ?_)
  rw [if_pos (by simp [pairTrees])]
  refine wpAny_bind (pairTrees_cons_walk (thn ((hk.run X g G _ _ σ env _ noX E1 q takes_no) pins _ I1) fun u s1 ⟨x, H2, I2, rx, rk, e1, G2, q2, E2, x2, k2, r2⟩ => ?_))
  obtain ⟨G2', x2', E2', p2⟩ := r2.hold E2
  refine thn ((hv.run X g G2' _ H2 σ e1 _ noX E2' q2 takes_no) pins s1 I2) fun u2 s2 ⟨y, H3, I3, ry, rv, e2, G3, ⟨dv, e3, dk, qf, qk, qt, q3⟩, E3, x3, k3, r3⟩ => pairTrees_nil_walk ?_
  obtain ⟨G3', x3', E3', p3⟩ := r3.hold E3
  obtain ⟨G4, x4, E4, p4, k4⟩ := RepR.fz E3' (p3.repR qf) qf
  -- the key
  obtain ⟨ks, rfl⟩ := isKT_keys qt
  have hk0 : RepH c G4 σ x rk.hold := p2.mono ((x3.trans x3').trans x4).1
  have hkk : RD c.K c.w H3 G4 x (keysD ks) := by
    refine E4.rdH (rv := rk.hold.hold) ?_ qk
    cases rk <;> exact hk0
  have hrep : Rep c.K c.w G4 x (keysD ks) := hkk
  obtain ⟨kb, rfl, hkb⟩ := Rep.keys hrep
  obtain rfl : u = Value.ref kb := rx
  have hkb3 : H3 kb = some (.tup (ks.map kV)) := E4.gh _ _ hkb
  have hDD : H3 DD = some (.dT []) := E4.bh _ _ upd_same
  refine wpAny_holding ?_
  refine wpAny_bind ?_
  rw [List.forIn_cons]
  have hu := g.hu
  obtain ⟨z, hd, xs, rel, dd⟩ := dt_of I3.hok hDD
  cases rel
  refine wpAny_bind (wpAny_bind (wpAny_dictSet_heap (hsz := Nat.zero_le _) (knd := tupleKind (mixKind X.prog X.w)) (show X.A.units < cLine by omega) (key_of I3.hok hkb3) dd fun h' dd' hs => wpAny_pure ?_))
  dsimp only
  rw [List.forIn_nil]
  refine wpAny_pure (wpAny_pure (wpAny_pure (wpAny_pure ?_)))
  obtain ⟨qo, es, ep, hq, g2, g3, g4, _, g5⟩ := dd'
  have rk1 : KT (upd H3 DD (.dT (putK [] ks y))) (putK [] ks y) (storedH [] ks kb u2) := (KT.put (.nil : KT H3 [] []) ks hkb3 ry).keeps fun c ys ec => by
    rw [upd_ne (ne_of ec hDD (fun z => nomatch z))]
    exact ec
  have hsL : (putK ([] : List (List Key × V)) ks y).length ≤ sizeLine := by
    have := length_putK ([] : List (List Key × V)) ks y
    rw [sizeLine_eq]
    simp at this ⊢
    omega
  have Xg : Ext (upd B DD (.dT [])) G G4 := (((x2.trans x2').trans x3).trans x3').trans x4
  have gD4 : G4 DD = none := Xg.none gD ⟨_, upd_same, rfl⟩
  have kk := (k2.trans k3).trans k4
  have E5 : RepEnv c G4 B H3 σ e3 := E4.unlend bD fun i d h => by
    obtain ⟨w, h1, h2⟩ := E.bor i d (kk.2 i d h)
    exact ⟨w, h1, h2.mono (Same.refl _) Xg.1⟩
  refine ⟨.ref DD, upd H3 DD (.dT (putK [] ks y)), d_write I3 (by rw [hDD]; exact True.intro) hs ⟨qo, hq⟩ ⟨hsL, hd, _, rk1, qo, es, ep, hq, g2, g3, g4, g5⟩, rfl, ?_⟩
  have ep : putK ([] : List (List Key × V)) ks y = [(ks, y)] := rfl
  refine ⟨_, e3, G4, q3, E5.bump gD4 bD E4.ne_lent, Xg.unlend bD, kk, DD, _, rfl, gD4, bD, upd_same, ⟨_, rfl, ?_⟩, E4.ne_lent⟩
  rw [ep]
  exact .cons p4 .nil
/-! ### {k: v, ..}, keys ints and texts -/
def ePairs : List (ET × ET) → Env → (List (D × D) → Env → Prop) → Prop
  | [], env, Q => Q [] env
  | (tk, tv) :: r, env, Q => tk env (fun rk e1 => tv e1 (fun rv e2 => ∃ dv e3 dk, fz e2 rv.hold = some (dv, e3) ∧ rk = .val dk ∧ isK dk = true ∧ ePairs r e3 fun ps e4 => Q ((dk, dv) :: ps) e4) noX) noX
def mergeD (kvs more : List (D × D)) : List (D × D) := more.foldl (fun acc kv => dput acc kv.1 kv.2) kvs
def eDisp (ts : List (ET × ET)) : ET := fun env Q _ => ePairs ts env fun ps e1 => Q (.fr (.dic false (mergeD [] ps))) e1
structure VPs (c : Cfg) (pos : Pos) (ks : List (Option Expr)) (vs : List Expr) (ts : List (ET × ET)) : Prop where
  run : ∀ X : Cx, Good c X → ∃ trs, PPs X pos ks vs trs ∧ ∀ (G B H : Hp) (σ : St) (env : Env) (Q : List (D × D) → Env → Prop) (R : List (V × V) → Hp → Prop), RepEnv c G B H σ env → ePairs ts env Q →
    (∀ (kvs : List (Key × V)) (ds : List (D × D)) (env' : Env) (G' H' : Hp), kvs.length = ts.length → Q ds env' → RepEnv c G' B H' σ env' → Ext B G G' → Keeps env env' → RepK c.K c.w G' kvs ds → R (kvs.map fun kv => (kV kv.1, kv.2)) H') → tPairs trs σ H R
end
end VS

namespace VS
open PySem PySem.Spec L2 PySem.W
open PyProof.Rows (seqObj sortedHeap)

/-! ### sorted -/
def leD (a b : D) : Bool := dataLe false D.toPy a b
def tupExt (G H : Hp) : Hp := fun a => match G a with
  | some o => some o
  | none => match H a with
    | some (.tup vs) => some (.tup vs)
    | _ => none
section
variable {G H : Hp}
theorem tupExt_gg : Same G (tupExt G H) := fun b u e => by unfold tupExt; simp only [e]
theorem tupExt_at {b : Addr} {vs : List V} (s : Same G H) (e : H b = some (.tup vs)) : tupExt G H b = some (.tup vs) := by
  unfold tupExt
  cases q : G b with
  | some o =>
    have := s _ _ q
    rw [e] at this
    exact this.symm
  | none => simp only [e]
theorem tupExt_gh (s : Same G H) : Same (tupExt G H) H := fun b u e => by
  unfold tupExt at e
  split at e
  · rename_i o q
    cases e
    exact s _ _ q
  · split at e
    · rename_i vs q
      cases e
      exact q
    · cases e
theorem tupExt_fresh (s : Same G H) (a : Addr) (h : tupExt G H a ≠ none) : G a ≠ none ∨ Nu H a := by
  unfold tupExt at h
  split at h
  · rename_i o q
    exact .inl (by rw [q]; simp)
  · split at h
    · rename_i vs q
      refine .inr fun o e => ?_
      rw [q] at e
      cases e
      rfl
    · exact absurd rfl h
end
mutual
theorem Reads.lt {h : Heap} : ∀ (d : PyData) (v : Value) (as : List Addr), alike d d = true → Reads h v d as → ∀ a ∈ as, a < h.objs.size
  | .none, _, _, _, r => by cases r; intro a ha; cases ha
  | .bool _, _, _, _, r => by cases r; intro a ha; cases ha
  | .int _, _, _, _, r => by cases r; intro a ha; cases ha
  | .str _, _, _, _, r => by cases r; intro a ha; cases ha
  | .list xs, _, _, hal, r => by
    cases r with
    | list h1 h2 h3 h4 =>
      intro a ha
      rcases List.mem_cons.mp ha with rfl | ha
      · exact Heap.lt_size h1
      · exact ReadsAll.lt xs _ _ (by simpa [alike] using hal) h4 a ha
  | .tuple xs, _, _, hal, r => by
    cases r with
    | tuple h1 h2 h3 h4 => exact ReadsAll.lt xs _ _ (by simpa [alike] using hal) h4
  | .dict _, _, _, hal, _ => absurd hal (by simp [alike])
theorem ReadsAll.lt {h : Heap} : ∀ (ds : List PyData) (vs : List Value) (as : List Addr), alikeAll ds ds = true → ReadsAll h vs ds as → ∀ a ∈ as, a < h.objs.size
  | [], _, _, _, r => by cases r; intro a ha; cases ha
  | d :: ds, _, _, hal, r => by
    cases r with
    | cons h1 h2 =>
      intro a ha
      rcases List.mem_append.mp ha with ha | ha
      · exact Reads.lt d _ _ (alike_all_cons hal).1 h1 a ha
      · exact ReadsAll.lt ds _ _ (alike_all_cons hal).2 h2 a ha
end
/-- what is collected of x -/
def Col (K : PySem.W.Frag) (H : Hp) (x : V) (S : List V → Prop) : Prop :=
  (∃ a xs, x = .ref a ∧ (SqL K H a xs ∨ SqT K H a xs) ∧ S xs) ∨ (∃ a kvs, x = .ref a ∧ Rd H a (.dT kvs) ∧ ∀ bs, IsKeys H kvs bs → S (bs.map V.ref)) ∨ (∃ a kvs, x = .ref a ∧ Rd H a (.dK kvs) ∧ S (kvs.map fun kv => kV kv.1)) ∨ (∃ z : Str, x = .str z ∧ z.length ≤ sizeLine ∧ S (z.cps.toList.map fun ch => .str ⟨#[ch]⟩)) ∨ ∃ w0 a a' kvs, x = .ref a ∧ Rd H a (dxO w0 a' kvs) ∧ S (kvs.map fun e => V.ref e.2.1)
def PairD (K : PySem.W.Frag) (H : Hp) (xs : List V) (ds : List D) : Prop := Paired (fun x d => ∃ n, n ≤ 50 ∧ d.toPy.depth ≤ n ∧ Dp K H x d.toPy) xs ds
/-- the collected ones sorted -/
def rSortD (K : PySem.W.Frag) : List V → Hp → VK → Prop := fun vs H Q => ∃ x S ds, vs = [x] ∧ Col K H x S ∧ (∀ xs, S xs → PairD K H xs ds) ∧ (∀ d ∈ ds, ∀ e ∈ ds, alike d.toPy e.toPy = true) ∧ Sortable (ds.map D.toPy) ∧
  ∀ (xs : List V) (zs : List (V × D)) (p : Addr), S xs → xs.length = ds.length → zs.Perm (xs.zip ds) → zs.map (·.2) = ds.mergeSort leD → H p = none → Q (.ref p) (upd H p (.lst (zs.map (·.1))))
theorem vals_each {xs : List V} {us : List Value} (h : Vals xs us) {ds : List D} (hl : xs.length = ds.length) : EachIs (fun u (b : V × D) => RelV b.1 u) us (xs.zip ds) := by
  induction h generalizing ds with
  | nil => cases ds with
    | nil => exact .nil
    | cons d ds => simp at hl
  | cons h t ih => cases ds with
    | nil => simp at hl
    | cons d ds => exact .cons h (ih (by simpa using hl))
theorem each_vals : ∀ {us : List Value} {zs : List (V × D)}, EachIs (fun u (b : V × D) => RelV b.1 u) us zs → Vals (zs.map (·.1)) us
  | _, _, .nil => .nil
  | _, _, .cons h t => .cons h (each_vals t)
theorem dp_each {K : PySem.W.Frag} {H : Hp} {X : Cx} {pins : List (Addr × Obj)} {σ : St} {s : Shared} (I : Inv X pins σ H s) (hK : K = X.K) : ∀ {xs : List V} {us : List Value} {ds : List D}, Vals xs us → PairD K H xs ds → EachIs (fun u (b : V × D) => ∃ as, Reads s.heap u b.2.toPy as) us (xs.zip ds)
  | _, _, _, .nil, .nil => .nil
  | _, _, _, .cons h t, .cons q r => by
    subst hK
    obtain ⟨n, _, _, q⟩ := q
    obtain ⟨as, hr⟩ := Dp.reads I _ _ _ q h
    exact .cons ⟨as, hr⟩ (dp_each I rfl t r)
theorem strs_signs : ∀ (cs : List Nat) (us : List Value), us.length = cs.length → (∀ (j : Nat) (v : Value), us[j]? = some v → ∃ c t, cs[j]? = some c ∧ v = Value.str ⟨#[c]⟩ t) → Vals (cs.map fun ch => V.str ⟨#[ch]⟩) us
  | [], [], _, _ => .nil
  | c :: cs, u :: us, hl, h => by
    obtain ⟨c', t, e1, e2⟩ := h 0 u rfl
    cases e1
    refine .cons ⟨t, e2⟩ (strs_signs cs us (by simpa using hl) fun j v e => ?_)
    obtain ⟨c', t, a, b⟩ := h (j + 1) v (by simpa using e)
    exact ⟨c', t, by simpa using a, b⟩
  | [], _ :: _, hl, _ => by simp at hl
  | _ :: _, [], hl, _ => by simp at hl
theorem col_collect {X : Cx} (hc : X.calm = true) {pins : List (Addr × Obj)} {σ : St} {H : Hp} {s : Shared} {x : V} {u : Value} {S : List V → Prop} (I : Inv X pins σ H s) (ru : RelV x u) (h : Col X.K H x S) {R : List Value → Shared → Prop} {E : Value → Shared → Prop}
    (hR : ∀ (xs : List V) (h' : Heap) (tk : Nat) (us : List Value), S xs → xs.length ≤ sizeLine → (∀ b o, s.heap.get? b = some o → h'.get? b = some o) → Vals xs us → R us { s with heap := h', toks := tk }) : wpAny (model X.prog X.w) X.A.in1 (collect u) R E s := by
  rcases h with ⟨a, xs, rfl, h, hS⟩ | ⟨d, kvs, rfl, hd, hS⟩ | ⟨a, kvs, rfl, hd, hS⟩ | ⟨z, rfl, hl, hS⟩ | ⟨w0, d, a', kvs, rfl, hd, hS⟩
  · obtain rfl : u = Value.ref a := ru
    rcases h with h | h
    · obtain ⟨its, rv, ⟨o, n, ho, hcl, _, hd⟩, z⟩ := I.list h
      refine wpAny_collect_seq a (.inl rfl) ho hcl hd (fun h' kp => ?_) (by rw [List.size_toArray, ← rv.length]; exact z)
      have := hR xs h' s.toks its hS z kp rv
      simpa using this
    · obtain ⟨its, rv, ⟨o, ho, hcl, n, hd⟩, z⟩ := I.tuple h
      refine wpAny_collect_seq a (.inr rfl) ho hcl hd (fun h' kp => ?_) (by rw [List.size_toArray, ← rv.length]; exact z)
      have := hR xs h' s.toks its hS z kp rv
      simpa using this
  · obtain rfl : u = Value.ref d := ru
    obtain ⟨z, hs, ks, pr, o, es, ep, ho, hx, hdt, he, hn⟩ := (show ObjOk X.prog X.w H s.heap d (.dT kvs) from hd.ok I.hok)
    have l1 : es.size = ks.length := size_of_entries he
    have l2 : kvs.length = ks.length := Paired.length pr
    refine PySem.W.kdu_collect (A := X.A.in1) (kdl_raw hs hx hdt) (I.ok.hd hc) ho (by omega) fun h' tk acc' kp it => ?_
    have ea : acc'.toList = ks.map fun x => Value.ref x.2.1 := by
      have hl : acc'.toList.length = ks.length := by rw [Array.length_toList, it.1]; exact l1
      apply List.ext_getElem?
      intro j
      rw [List.getElem?_map]
      cases hj : acc'.toList[j]? with
      | none =>
        have h1 := List.getElem?_eq_none_iff.mp hj
        rw [List.getElem?_eq_none (by omega)]
        all_goals rfl
      | some v =>
        obtain ⟨en, hen, hv⟩ := it.2 j v (by rw [← Array.getElem?_toList]; exact hj)
        have qe := entry_at he j
        rw [hen] at qe
        cases hb : ks[j]? with
        | none =>
          rw [hb] at qe
          exact nomatch (show some en = none from qe)
        | some b =>
          rw [hb] at qe
          have e2 : en = entryOfKey (tupleKind (mixKind X.prog X.w)) b := Option.some.inj qe
          rw [hv, e2]
          all_goals rfl
    have eb : acc'.toList = (ks.map fun x => x.2.1).map Value.ref := by rw [ea, List.map_map]; all_goals rfl
    refine hR _ h' tk _ (hS _ (isKeys_of pr)) (by rw [List.length_map, List.length_map]; omega) kp ?_
    rw [eb]
    exact vals_refs _
  · obtain rfl : u = Value.ref a := ru
    obtain ⟨z, lo, vs, rel, dd⟩ := dk_rd I.hok hd
    obtain ⟨ep, hat⟩ := dd.dictAt
    have ek : (kvs.map fun kv => kV kv.1) = vs.map fun p => kV p.1 := by
      have e := congrArg (List.map kV) rel.keys
      rw [List.map_map, List.map_map] at e
      exact e
    refine PySem.W.kdu_collect (A := X.A.in1) (PySem.W.kdl_dict (knd := mixKind X.prog X.w) (kvs := vs) (ep := ep) lo) (I.ok.hd hc) hat (by rw [← rel.length]; exact z) fun h' tk acc hk hacc => ?_
    have hv : Vals (vs.map fun p => kV p.1) acc.toList := keys_at (by rw [Array.length_toList]; exact hacc.1) fun j v e => hacc.2 j v (by rw [← Array.getElem?_toList]; exact e)
    exact hR _ h' tk _ hS (by rw [List.length_map]; exact z) hk (by rw [ek]; exact hv)
  · obtain ⟨t, rfl⟩ : ∃ t, u = Value.str z t := ru
    refine wpAny_collect_str (A := X.A.in1) (I.ok.hd hc) z t (fun s' acc kp g1 g2 g3 it => ?_) hl
    have hv : Vals (z.cps.toList.map fun ch => V.str ⟨#[ch]⟩) acc.toList := strs_signs _ _ (by rw [Array.length_toList, it.1, Array.length_toList]) fun j v e => by
      obtain ⟨c, u, h1, h2⟩ := it.2 j v (by rw [← Array.getElem?_toList]; exact e)
      exact ⟨c, u, by rw [Array.getElem?_toList]; exact h1, h2⟩
    have := hR _ s'.heap s'.toks _ hS (by rw [List.length_map, Array.length_toList]; exact hl) kp hv
    have es : s' = { s with heap := s'.heap, toks := s'.toks } := by
      cases s'
      cases s
      simp only at g1 g2 g3
      subst g1 g2 g3
      rfl
    rw [es]
    exact this
  · obtain rfl : u = Value.ref d := ru
    obtain ⟨_, z, hs, ks, pr, o, es, ep, ho, hx, hdt, he, hn⟩ := dx_rd I.hok hd
    have l1 : es.size = ks.length := by rw [← Array.length_toList, he, List.length_map]
    have l2 : kvs.length = ks.length := Paired.length pr
    refine PySem.W.kdu_collect (A := X.A.in1) (kdl_raw hs hx hdt) (I.ok.hd hc) ho (by omega) fun h' tk acc' kp it => ?_
    have ea : acc'.toList = ks.map fun x => Value.ref x.2.1 := by
      have hl : acc'.toList.length = ks.length := by rw [Array.length_toList, it.1]; exact l1
      apply List.ext_getElem?
      intro j
      rw [List.getElem?_map]
      cases hj : acc'.toList[j]? with
      | none =>
        have h1 := List.getElem?_eq_none_iff.mp hj
        rw [List.getElem?_eq_none (by omega)]
        all_goals rfl
      | some v =>
        obtain ⟨en, hen, hv⟩ := it.2 j v (by rw [← Array.getElem?_toList]; exact hj)
        have qe : es[j]? = (ks[j]?).map (fun x => (⟨PySem.NestedKey.hash w0 x.1, .ref x.2.1, x.2.2⟩ : DictEntry)) := by
          rw [← Array.getElem?_toList, he, List.getElem?_map]
        rw [hen] at qe
        cases hb : ks[j]? with
        | none =>
          rw [hb] at qe
          exact nomatch (show some en = none from qe)
        | some b =>
          rw [hb] at qe
          have e2 : en = (⟨PySem.NestedKey.hash w0 b.1, .ref b.2.1, b.2.2⟩ : DictEntry) := Option.some.inj qe
          rw [hv, e2]
          all_goals rfl
    have eb : acc'.toList = (ks.map fun x => x.2.1).map Value.ref := by rw [ea, List.map_map]; all_goals rfl
    have ek : (kvs.map fun e => V.ref e.2.1) = (ks.map fun x => x.2.1).map V.ref := by
      have key : ∀ {l : List (PySem.NestedKey × Addr × V)} {m : List (PySem.NestedKey × Addr × Value)}, Paired (fun (p : PySem.NestedKey × Addr × V) (q : PySem.NestedKey × Addr × Value) => p.1 = q.1 ∧ p.2.1 = q.2.1 ∧ RelV p.2.2 q.2.2) l m → (l.map fun e => V.ref e.2.1) = (m.map fun x => x.2.1).map V.ref := by
        intro l m q
        induction q with
        | nil => rfl
        | cons h t ih => rw [List.map_cons, List.map_cons, List.map_cons, ih, h.2.1]
      exact key pr
    refine hR _ h' tk _ hS (by rw [List.length_map]; exact z) kp ?_
    rw [eb, ek]
    exact vals_refs _
theorem paired_mem {α β : Type} {R : α → β → Prop} : ∀ {xs : List α} {ys : List β}, Paired R xs ys → ∀ {y : β}, y ∈ ys → ∃ x, x ∈ xs ∧ R x y
  | _, _, .nil, _, h => nomatch h
  | _, _, .cons h t, y, hy => by
    rcases List.mem_cons.mp hy with rfl | hy
    · exact ⟨_, List.mem_cons_self .., h⟩
    · obtain ⟨x, h1, h2⟩ := paired_mem t hy
      exact ⟨x, List.mem_cons_of_mem _ h1, h2⟩
theorem r_sorted0 {X : Cx} (hc : X.calm = true) (hu : X.A.units + 64 < cLine) : CallR X (.builtin "sorted") (rSortD X.K) := by
  intro pins s σ H xs us Q I r h
  obtain ⟨x, S, ds, rfl, hcol, hp, hal, hso, q⟩ := h
  obtain ⟨u, rfl, rx⟩ := vals1 r
  refine Calls.call_function_entry PyProof.Rows.kind_sorted PyProof.Rows.plain_sorted PyProof.Rows.entry_sorted (PyProof.Rows.args_sorted1 _) ?_
  unfold Builtin.«sorted»
  refine wpAny_bind (m := checkCount "sorted" 1 1 _) (wpAny_pure ?_)
  refine wpAny_bind (col_collect hc I rx hcol fun xs h' tk us hS hz kp rv => ?_)
  have hpd := hp xs hS
  have hlen : xs.length = ds.length := Paired.length hpd
  have I1 : Inv X pins σ H { s with heap := h', toks := tk } := I.kept kp
  refine wpAny_bind (wpAny_newList ?_ (by rw [← rv.length]; exact hz))
  have hoL : (h'.push (seqObj "list" us.toArray 0)).get? h'.objs.size = some (seqObj "list" us.toArray 0) := Heap.get?_push_size _ rfl
  show wpAny _ _ _ _ _ { s with heap := h'.push (seqObj "list" us.toArray 0), toks := tk }
  have kp2 : ∀ b u, h'.get? b = some u → (h'.push (seqObj "list" us.toArray 0)).get? b = some u := fun b u e => Heap.get?_push_of_some _ e
  have I2 : Inv X pins σ H { s with heap := h'.push (seqObj "list" us.toArray 0), toks := tk } := I1.kept kp2
  have ev : EachIs (fun u (b : V × D) => RelV b.1 u) us (xs.zip ds) := vals_each rv hlen
  have er0 := dp_each I1 rfl rv hpd
  have mem2 : ∀ b ∈ xs.zip ds, b.2 ∈ ds := fun b hb => (List.of_mem_zip hb).2
  have er : EachIs (fun u (b : V × D) => ∃ as, Reads (h'.push (seqObj "list" us.toArray 0)) u b.2.toPy as ∧ h'.objs.size ∉ as) us (xs.zip ds) :=
    (each_mem er0).mono fun u b ⟨⟨as, hr⟩, hb⟩ => ⟨as, PyProof.Rows.Reads.keeps kp2 hr, fun hm => Nat.lt_irrefl _ (Reads.lt _ _ _ (hal _ (mem2 b hb) _ (mem2 b hb)) hr _ hm)⟩
  have e2 : (xs.zip ds).map (fun b => b.2.toPy) = ds.map D.toPy := by
    rw [← congrArg (List.map D.toPy) (List.map_snd_zip (l₁ := xs) (l₂ := ds) (by omega)), List.map_map]
    rfl
  refine wpAny_bind (wpAny_holding (wpAny_mono (list_sort_data (s := { s with heap := h'.push (seqObj "list" us.toArray 0), toks := tk }) (a := h'.objs.size) (n := 0) (enc := fun b : V × D => b.2.toPy) (R := fun u b => RelV b.1 u)
    (Q := fun _ s' => ∃ out : List Value, s' = { s with heap := sortedHeap (h'.push (seqObj "list" us.toArray 0)) h'.objs.size us (List.toArray out), toks := tk } ∧ EachIs (fun u (b : V × D) => RelV b.1 u) out ((xs.zip ds).mergeSort (dataLe false fun b => b.2.toPy)))
    (E := fun _ _ => False) hoL ev er ?_ ?_ ?_ ?_ ?_) (fun r s' hs => ?_) (fun e s' hs => ?_)))
  · rw [AllAlike, e2]
    intro d hd d' hd'
    obtain ⟨a, ha, rfl⟩ := List.mem_map.mp hd
    obtain ⟨b, hb, rfl⟩ := List.mem_map.mp hd'
    exact hal a ha b hb
  · rw [e2]; exact hso
  · rw [List.length_zip, hlen, Nat.min_self, ← hlen]; exact hz
  · intro b hb
    have hd := mem2 b hb
    obtain ⟨x0, _, n, h50, hdep, _⟩ := paired_mem hpd hd
    show X.A.units + 1 + 1 + b.2.toPy.depth < cLine
    omega
  · exact fun out hl he => ⟨out, rfl, he⟩
  · obtain ⟨out, rfl, he⟩ := hs
    refine wpAny_pure ⟨_, rfl, ?_⟩
    obtain ⟨ep, he'⟩ := PyProof.Rows.sortedHeap_at (vs := us) (out := out.toArray) hoL
    have hv := each_vals he
    have hperm : ((xs.zip ds).mergeSort (dataLe false fun b => b.2.toPy)).Perm (xs.zip ds) := List.mergeSort_perm _ _
    have hlz : (((xs.zip ds).mergeSort (dataLe false fun b => b.2.toPy)).map (·.1)).length ≤ sizeLine := by
      rw [List.length_map, hperm.length_eq, List.length_zip, hlen, Nat.min_self, ← hlen]; exact hz
    refine ⟨.ref h'.objs.size, upd H h'.objs.size (.lst (((xs.zip ds).mergeSort (dataLe false fun b => b.2.toPy)).map (·.1))), I1.laid (t' := tk) (fun b u e => ?_) (Nat.le_refl _)
      (show ObjOk X.prog X.w _ _ _ (.lst _) from ⟨hlz, out, ep, hv, he'⟩), rfl, q xs _ _ hS hlen hperm ?_ (I1.hok.fresh (Nat.le_refl _))⟩
    · have hb : b < h'.objs.size := Heap.lt_size e
      rw [PyProof.Rows.sortedHeap_old (Nat.ne_of_lt hb) (by rw [PyProof.Rows.size_push']; exact Nat.lt_succ_of_lt hb)]
      exact Heap.get?_push_of_some _ e
    · have em := sort_maps (r := dataLe false fun b : V × D => b.2.toPy) (s := leD) Prod.snd (l := xs.zip ds) (fun _ _ _ _ => rfl)
      rw [List.map_snd_zip (by omega)] at em
      exact em
  · exact hs.elim
/-- what is collected, by values -/
def colD : D → Option (List D)
  | .lst ds => some ds
  | .tup ds => some ds
  | .ktup ds => some ds
  | .dic _ kvs => some (kvs.map (·.1))
  | .dix kvs => some (kvs.map (·.1))
  | .str x => if x.length ≤ sizeLine then some (signs x) else none
  | _ => none
theorem repT_keys {c : Cfg} {G H : Hp} : ∀ {kvs : List (List Key × V)} {ds : List (D × D)}, RepT c.K c.w G kvs ds → Same G H → ∀ bs, IsKeys H kvs bs → RepL c.K c.w (tupExt G H) (bs.map V.ref) (ds.map (·.1))
  | _, _, .nil, s, bs, h => by cases h; exact .nil
  | _, _, .cons q r, s, bs, h => by
    cases h with
    | cons h1 h2 =>
      refine .cons (.tup (tupExt_at s h1) ?_) (repT_keys r s _ h2)
      have : ∀ ks : List Key, RepL c.K c.w (tupExt G H) (ks.map kV) (ks.map keyD) := fun ks => by
        induction ks with
        | nil => exact .nil
        | cons k ks ih => exact .cons (by cases k <;> first | exact .int _ | exact .str _) ih
      exact this _
theorem repK_keys {c : Cfg} {G G' : Hp} : ∀ {kvs : List (Key × V)} {ds : List (D × D)}, RepK c.K c.w G kvs ds → RepL c.K c.w G' (kvs.map fun kv => kV kv.1) (ds.map (·.1))
  | _, _, .nil => .nil
  | _, _, .cons (k := k) q r => .cons (by cases k <;> first | exact .int _ | exact .str _) (repK_keys r)
theorem repN_keys {c : Cfg} {G : Hp} : ∀ {kvs : List (PySem.NestedKey × Addr × V)} {ds : List (D × D)}, RepN c.K c.w G kvs ds → RepL c.K c.w G (kvs.map fun e => V.ref e.2.1) (ds.map (·.1))
  | _, _, .nil => .nil
  | _, _, .cons _ _ h _ r => .cons h (repN_keys r)
theorem rep_signs {K : PySem.W.Frag} {w : World} {G : Hp} : ∀ cs : List Nat, RepL K w G (cs.map fun ch => V.str ⟨#[ch]⟩) (cs.map fun ch => D.str ⟨#[ch]⟩)
  | [] => .nil
  | _ :: cs => .cons (.str _) (rep_signs cs)
theorem col_rep {c : Cfg} {G H : Hp} {v : V} {d : D} {ds : List D} (s : Same G H) (r : RD c.K c.w H G v d) (e : colD d = some ds) : ∃ S, Col c.K H v S ∧ ∀ xs, S xs → RepL c.K c.w (tupExt G H) xs ds := by
  have sq : ((d = .lst ds) ∨ (d = .tup ds) ∨ (d = .ktup ds)) → ∃ S, Col c.K H v S ∧ ∀ xs, S xs → RepL c.K c.w (tupExt G H) xs ds := fun e => by
    obtain ⟨a, vs, rfl, h1, h2⟩ := seqD s r e
    exact ⟨fun xs => xs = vs, .inl ⟨a, vs, rfl, h1, rfl⟩, fun xs hx => by subst hx; exact h2.mono tupExt_gg⟩
  unfold colD at e
  split at e
  · cases e; exact sq (.inl rfl)
  · cases e; exact sq (.inr (.inl rfl))
  · cases e; exact sq (.inr (.inr rfl))
  · rename_i t kvs
    cases e
    cases t with
    | false =>
      obtain ⟨a, ks, rfl, h1, h2⟩ := r
      exact ⟨fun xs => xs = ks.map fun kv => kV kv.1, .inr (.inr (.inl ⟨a, ks, rfl, h1, rfl⟩)), fun xs hx => by subst hx; exact repK_keys h2⟩
    | true =>
      obtain ⟨a, ks, rfl, h1, h2⟩ := r
      exact ⟨fun xs => ∃ bs, IsKeys H ks bs ∧ xs = bs.map V.ref, .inr (.inl ⟨a, ks, rfl, h1, fun bs hb => ⟨bs, hb, rfl⟩⟩), fun xs ⟨bs, hb, hx⟩ => by subst hx; exact repT_keys h2 s bs hb⟩
  · rename_i kvs
    cases e
    obtain ⟨a, a', ks, rfl, h1, h2⟩ := r
    exact ⟨fun xs => xs = ks.map fun e => V.ref e.2.1, .inr (.inr (.inr (.inr ⟨_, a, a', ks, rfl, h1, rfl⟩))), fun xs hx => by subst hx; exact (repN_keys h2).mono tupExt_gg⟩
  · split at e
    · rename_i x hx
      cases e
      cases r
      exact ⟨fun xs => xs = x.cps.toList.map fun ch => V.str ⟨#[ch]⟩, .inr (.inr (.inr (.inl ⟨x, rfl, hx, rfl⟩))), fun xs hx => by subst hx; exact rep_signs _⟩
    · cases e
  · cases e
theorem repL_pair {c : Cfg} {G H : Hp} (s : Same G H) : ∀ {xs : List V} {ds : List D}, RepL c.K c.w G xs ds → D.okL 50 ds = true → PairD c.K H xs ds
  | _, _, .nil, _ => .nil
  | _, _, .cons h r, o => by
    simp only [D.okL, Bool.and_eq_true] at o
    exact .cons ⟨50, Nat.le_refl _, (D.ok_lay 50 _ o.1).2, Rep.dp (h.mono s) o.1⟩ (repL_pair s r o.2)
theorem repL_zip {c : Cfg} {G : Hp} : ∀ {xs : List V} {ds : List D}, RepL c.K c.w G xs ds → ∀ b ∈ xs.zip ds, Rep c.K c.w G b.1 b.2
  | _, _, .nil, _, h => nomatch h
  | _, _, .cons h r, b, hb => by
    rcases List.mem_cons.mp hb with rfl | hb
    · exact h
    · exact repL_zip r b hb
theorem repL_unzip {c : Cfg} {G : Hp} : ∀ {zs : List (V × D)}, (∀ b ∈ zs, Rep c.K c.w G b.1 b.2) → RepL c.K c.w G (zs.map (·.1)) (zs.map (·.2))
  | [], _ => .nil
  | z :: zs, h => .cons (h z (List.mem_cons_self ..)) (repL_unzip fun b hb => h b (List.mem_cons_of_mem _ hb))
def sortOk (ds : List D) : Prop := D.okL 50 ds = true ∧ (∀ d ∈ ds, ∀ e ∈ ds, alike d.toPy e.toPy = true) ∧ Sortable (ds.map D.toPy)
def opSorted : List D → (RV → Prop) → Prop
  | [d], Q => ∃ ds, colD d = some ds ∧ sortOk ds ∧ Q (.fr (.lst (ds.mergeSort leD)))
  | _, _ => False
theorem sorted_s {c : Cfg} : OpSn c (rSortD c.K) opSorted := by
  intro G H xs ds P K s r o f
  unfold opSorted at o
  split at o
  · obtain ⟨ds, hc, ⟨h1, h2, h3⟩, p⟩ := o
    cases r with
    | cons h r =>
    cases r
    obtain ⟨S, hS, hR⟩ := col_rep s h hc
    have s' := tupExt_gh s
    refine ⟨_, S, ds, rfl, hS, fun xs hx => repL_pair s' (hR xs hx) h1, h2, h3, fun xs zs p0 hx hl hp hm hp0 => ?_⟩
    have rl : RepL c.K c.w (tupExt G H) (zs.map (·.1)) (zs.map (·.2)) := repL_unzip fun b hb => repL_zip (hR xs hx) b (hp.mem_iff.mp hb)
    rw [hm] at rl
    exact f _ (.ref p0) (tupExt G H) _ p ⟨same_new hp0, tupExt_gg, s'.trans (same_new hp0), tupExt_fresh s⟩ ⟨p0, _, rfl, hp0, s'.free hp0, upd_same, _, rfl, rl⟩
  · exact o.elim
theorem r_sorted {c : Cfg} {X : Cx} (g : Good c X) (hc : c.calm = true := by rfl) : CallR X (.builtin "sorted") (rSortD c.K) := by rw [← g.K]; exact r_sorted0 (g.calm hc) g.un
end VS

namespace VS
open PySem PySem.Spec L2

/-! ### a <= b < c, whole numbers -/
def eChain (p q : Int → Int → Bool) (ta tb tc : ET) : ET := fun env Q Xq => ta env (fun ra e1 => ∃ i, ra = .val (.int i) ∧ tb e1 (fun rb e2 => ∃ j, rb = .val (.int j) ∧ if p i j = true then tc e2 (fun rc e3 => ∃ k, rc = .val (.int k) ∧ Q (.val (.bl (q j k))) e3) Xq else Q (.val (.bl false)) e2) Xq) Xq
def iLt (i j : Int) : Bool := decide (i < j)
def iLe (i j : Int) : Bool := decide (i ≤ j)
section
variable {c : Cfg} {pos : Pos} {a b e : Expr} {ta tb tc : ET}
end

/-! ### a, b = x, y -/
def sPar (i j : Nat) (ta : AT) : STt := fun D env => ta env (fun rs e1 => ∃ d1 d2 e2, fzs e1 rs = some ([d1, d2], e2) ∧ ∃ e3, (e2.set i (.val d1)).set j (.val d2) = e3 ∧ D.nx e3) D.xq
def parB (N : List Str) (sc : Scope) (i j : Nat) (x y : Str) (px py : Pos) (vs : List Expr) : Bool :=
  decide (N[i]? = some x) && decide (N[j]? = some y) && decide (i ≠ j) && decide (x ≠ y) && (match sc.kind with | .function => true | _ => false) && (match sc.names.lookup x with | some .local => true | _ => false) && (match sc.names.lookup y with | some .local => true | _ => false) && (px.line == px.line) && (py.line == px.line)
   && !(vs.any fun | .Starred .. => true | _ => false) && !(vs.all (foldedForSure 8)) && !(vs.all (constantsAlone 8)) && decide (vs.length = 2)
theorem swap_ok {env : PySem.Env} {x y : Str} {px py pt pt2 : Pos} {kt k2 : _} {a b : Expr} (hk : env.scope.kind = .function) (h1 : env.scope.names.lookup x = some .local) (h2 : env.scope.names.lookup y = some .local) (hl : (py.line == px.line) = true) (hxy : x ≠ y)
    (hs : ([a, b].any fun | .Starred .. => true | _ => false) = false) (hf : [a, b].all (foldedForSure 8) = false) (hc : [a, b].all (constantsAlone 8) = false) :
    swappedStores [.Tuple [.Name x px, .Name y py] kt pt] (.Tuple [a, b] k2 pt2) env = pure (some [x, y]) := by
  have e1 : (env.kindOf x == some .local) = true := by
    have : env.kindOf x = some .local := h1
    rw [this]; rfl
  have e2 : (env.kindOf y == some .local) = true := by
    have : env.kindOf y = some .local := h2
    rw [this]; rfl
  have ek : env.blockKind = .function := by unfold PySem.Env.blockKind; rw [hk]; rfl
  have hp : (px.line == px.line) = true := by simp
  have n1 : (y == x) = false := by
    cases q : (y == x) with
    | false => rfl
    | true => exact absurd (eq_of_beq q).symm hxy
  have dd : [x, y].eraseDups = [x, y] := by
    rw [List.eraseDups_cons]
    have : [y].filter (fun b => !b == x) = [y] := by
      rw [List.filter_cons_of_pos (by rw [n1]; rfl)]; rfl
    rw [this]
    rfl
  unfold swappedStores
  simp only [ek, List.head?, Option.map, Option.getD, Expr.pos, List.filterMap, e1, e2, hl, hp, Bool.and_self, Bool.and_true, if_true, dd]
  refine (if_neg (fun h => absurd (show false = true from h) (by decide))).trans ?_
  refine (if_neg fun h => absurd (hs.symm.trans h) (by decide)).trans ?_
  refine (if_neg (fun h => absurd (show false = true from h) (by decide))).trans ?_
  refine (if_neg (by rw [hf]; decide)).trans ?_
  refine (if_neg (by rw [hc]; decide)).trans ?_
  rfl
section
variable {c : Cfg} {pos : Pos}
theorem vs_par {i j : Nat} {x y : Str} {a b : Expr} {ta : AT} {px py pt pt2 : Pos} {kt k2 : _} (hb : parB c.N c.scope i j x y px py [a, b] = true) (h : VA c [a, b] ta)
    (hs : ∀ env : PySem.Env, swapsWithSole [.Tuple [.Name x px, .Name y py] kt pt] (.Tuple [a, b] k2 pt2) pos.line env = pure false := by intros; rfl) (hc : c.calm = true := by rfl) :
    VS1 c (.Assign [.Tuple [.Name x px, .Name y py] kt pt] (.Tuple [a, b] k2 pt2) pos) (sPar i j ta) := by
  unfold parB at hb
  simp only [Bool.and_eq_true, decide_eq_true_eq, Bool.not_eq_true'] at hb
  obtain ⟨⟨⟨⟨⟨⟨⟨⟨⟨⟨⟨⟨b1, b2⟩, b3⟩, b4⟩, b5⟩, b6⟩, b7⟩, b8⟩, b9⟩, b10⟩, b11⟩, b12⟩, _⟩ := hb
  have hk : c.scope.kind = .function := by
    split at b5
    · assumption
    · cases b5
  have h1 : c.scope.names.lookup x = some .local := by
    split at b6
    · assumption
    · cases b6
  have h2 : c.scope.names.lookup y = some .local := by
    split at b7
    · assumption
    · cases b7
  constructor
  intro X g G B H σ env D E q tk
  refine TUs.of (ps_par (g.calm hc) g.nd (i := i) (j := j) (by rw [g.N]; exact b1) (by rw [g.N]; exact b2) b3 (by rw [g.scope]; exact h1) (by rw [g.scope]; exact h2) (pa_tu (es := [a, b])) (swap_ok (by rw [g.scope]; exact hk) (by rw [g.scope]; exact h1) (by rw [g.scope]; exact h2) b9 b4 b10 b11 b12) (hs X.env)) ?_
  intro pos' pins s I
  have li : i < env.length := by
    rw [← E.len, I.len, g.N]
    exact (List.getElem?_eq_some_iff.mp b1).1
  have lj : j < env.length := by
    rw [← E.len, I.len, g.N]
    exact (List.getElem?_eq_some_iff.mp b2).1
  refine thn ((h.run X g G B H σ env _ D.xq E q tk) pos' pins s I) fun us s1 ⟨vs, H1, I1, rr, rs, e1, G1, ⟨d1, d2, e2, qf, e3, qe, qn⟩, E1, x1, k1, r1⟩ => ⟨vs, H1, I1, rr, ?_⟩
  obtain ⟨G2, x2, E2, r2, k2⟩ := r1.fzs E1 qf
  cases r2 with
  | cons ra r2 =>
  cases r2 with
  | cons rb r2 =>
  cases r2
  subst qe
  have l1 : e2.length = env.length := by rw [k2.1, k1.1]
  have hi : i < e2.length := by rw [l1]; exact li
  have hj : j < (e2.set i (.val d1)).length := by rw [List.length_set, l1]; exact lj
  refine ⟨_, _, rfl, _, G2, qn, (E2.setVal hi ra).setVal hj rb, x1.trans x2, ?_⟩
  refine BorS.trans ((k1.trans k2).bors σ) (BorS.trans (bors_set hi fun d h => by cases h) (bors_set hj fun d h => by cases h))
end
end VS

namespace VS
open PySem PySem.Spec L2 PySem.W
open PyProof.Rows (itemOrd lexLt)

/-! ### the sorted list -/
theorem leD_total : TotalLe leD := (sortLe_total (PyProof.Rows.listOrd itemOrd) false fun d : D => keyToks d.toPy : TotalLe (dataLe false D.toPy))
theorem leD_pairwise (ds : List D) : (ds.mergeSort leD).Pairwise (fun a b => leD a b = true) := sort_pairwise leD_total ds
theorem toks_inj {x y : PyData} (h : alike x y = true) (e : keyToks x = keyToks y) : PyData.eqv x y = true := by
  cases q : PyData.eqv x y with
  | true => rfl
  | false =>
    have h1 := (toks_eqv x y h).2 q [.inl 0] [.inl 1]
    have h2 := (toks_eqv x y h).2 q [.inl 1] [.inl 0]
    rw [e, lex_pre] at h1 h2
    rw [← h1] at h2
    exact absurd h2 (by decide)
theorem leD_anti {n m : Nat} {a b : D} (ha : D.okD n a = true) (hb : D.okD m b = true) (hal : alike a.toPy b.toPy = true) (h1 : leD a b = true) (h2 : leD b a = true) : a = b := by
  refine (D.eqv_iff n m a b ha hb).mp (toks_inj hal ?_)
  have e1 : lexLt itemOrd (keyToks b.toPy) (keyToks a.toPy) = false := by
    have : (!lexLt itemOrd (keyToks b.toPy) (keyToks a.toPy)) = true := h1
    simpa using this
  have e2 : lexLt itemOrd (keyToks a.toPy) (keyToks b.toPy) = false := by
    have : (!lexLt itemOrd (keyToks a.toPy) (keyToks b.toPy)) = true := h2
    simpa using this
  exact (PyProof.Rows.listOrd itemOrd).total _ _ e2 e1
def sortable (ds : List D) : Prop := D.okL 50 ds = true ∧ ∀ d ∈ ds, ∀ e ∈ ds, alike d.toPy e.toPy = true
theorem sortD_id {ds : List D} (ho : ds.Pairwise (fun a b => leD a b = true)) : ds.mergeSort leD = ds := List.mergeSort_of_pairwise ho
end VS

namespace VS
open PySem PySem.Spec L2

/-! ### f() -/
theorem pe_callS0 {X : Cx} {CX : CXT} {k : Nat} {f : Addr} {fd : FuncData} {ps : List Str} {sp : Sp} {x : Str} {p pos : Pos} {E : St → XK} (F : FnOk X.prog X.w X.K X.mg X.base CX k f fd ps sp) (hr : Room k X.A) (hg : Gl X x) (hm : X.mg x = some (.ref f)) (hk : PySem.W.keepIn X.K (.ref f) = true) (hb : Binds X.K fd ps []) (hx : ∀ σ, PassesAt CX X σ (E σ))
    (hdb : (x == ("__debug__" : Str)) = false := by decide) : PE X (.Call (.Name x p) [] [] pos) (tCallS sp E tNil) := by
  refine ⟨fun pins s σ H Q I h => ?_⟩
  refine wpAny_Call_Name_kw (ld_glob I hg hm ?_ hdb)
  exact PySem.W.callWith_K0 I.kIn hk (run_fnS (us := []) F hr hb (hx σ) I .nil h)
section
variable {c : Cfg} {pos p : Pos}
theorem ve_call0 {x : Str} {ms : List Bool} {F : FSp} (f : FnC c x ms F) (hg : GlC c x) (hdb : (x == ("__debug__" : Str)) = false := by decide) (hc : c.calm = true := by rfl) : VE c (.Call (.Name x p) [] [] pos) (eCall ms F aNil) := by
  constructor
  intro X g G B H σ env Q Xq E q tk
  obtain ⟨fa, fd, ps, h, hm, hk, hb⟩ := f.ex
  rw [← g.prog, ← g.w, ← g.K, ← g.mg, ← g.base] at h
  refine TU.of (pe_callS0 (E := WE (WXo c G B σ env Xq)) (sp := spV c ms F) h (g.room hc) (hg.gl g) (by rw [g.mg]; exact hm) (by rw [g.K]; exact hk) (by rw [g.K]; exact hb) (fun σ' => passAt tk σ') hdb) ?_
  obtain ⟨ds, e2, q1, qF⟩ := q
  show spV c ms F [] H _ _
  obtain ⟨G2, x2, E2, r2, k2⟩ := E.args (vs := []) .nil q1
  refine ⟨G2, ds, _, _, E2.gh, r2, qF, fun rv v G' H' pq res rr => ?_, fun x cls dx G' H' pq res rx => ?_⟩
  · exact ⟨rv, e2, G', pq, E2.go res, x2.trans (res.ext E2.bh), k2, E2.goR res rr⟩
  · exact ⟨x, e2, G', pq, E2.go res, x2.trans (res.ext E2.bh), k2.bors σ, rx⟩
end
end VS

namespace VS
open PySem PySem.Spec L2

/-! ### loops over what is known -/
/-- I by what is still to come -/
theorem for_inv {g : GT} {b : STt} {D' : EndsD} {ds : List D} {env : Env} (I : List D → Env → Prop) (h0 : I ds env) (fin : ∀ e, I [] e → D'.nx e)
    (step : ∀ d rest e, I (d :: rest) e → ∀ K : Env → Prop, (∀ e', I rest e' → K e') → g d e fun e1 => b { D' with nx := K, ct := K, bk := D'.nx } e1) : WL g b D' ds env := by
  rw [WL_eq]
  induction ds generalizing env with
  | nil => exact fin env h0
  | cons d ds ih => exact step d ds env h0 _ fun e' he => ih he
/-- counted: I by how many are done -/
theorem for_nat {g : GT} {b : STt} {D' : EndsD} {ds : List D} {env : Env} (I : Nat → Env → Prop) (h0 : I 0 env) (fin : ∀ e, I ds.length e → D'.nx e)
    (step : ∀ i d e, ds[i]? = some d → I i e → ∀ K : Env → Prop, (∀ e', I (i + 1) e' → K e') → g d e fun e1 => b { D' with nx := K, ct := K, bk := D'.nx } e1) : WL g b D' ds env := by
  refine for_inv (fun rest e => rest.length ≤ ds.length ∧ ds.drop (ds.length - rest.length) = rest ∧ I (ds.length - rest.length) e) ⟨Nat.le_refl _, by simp, by simpa using h0⟩ (fun e h => fin e (by simpa using h.2.2)) fun d rest e ⟨hl, hd, hi⟩ K hK => ?_
  simp only [List.length_cons] at hl hd hi
  have e1 : ds.length - rest.length = ds.length - (rest.length + 1) + 1 := by omega
  refine step _ d e ?_ hi K fun e' he => hK e' ⟨by omega, ?_, by rw [e1]; exact he⟩
  · have := congrArg (fun l => l[0]?) hd
    simpa using this
  · rw [e1, ← List.drop_drop, hd]
    rfl
theorem lc_inv {g : GT} {tt : TTt} {te : ET} {is : List Nat} {Q : List D → Env → Prop} {ds : List D} {env : Env} (I : List D → List D → Env → Prop) (h0 : I ds [] env) (fin : ∀ acc e, I [] acc e → Q acc e)
    (step : ∀ d rest acc e, I (d :: rest) acc e → ∀ K : List D → Env → Prop, (∀ acc' e', I rest acc' e' → K acc' e') → g d e fun e1 => tt e1 (fun b e2 => if b = true then te e2 (fun rv e3 => ∃ dv e4, fz e3 rv = some (dv, e4) ∧ acc.length < sizeLine ∧ K (acc ++ [dv]) (wipeE e4 is)) noX else K acc (wipeE e2 is)) noX) : WC g tt te is Q ds env := by
  rw [WC_eq]
  generalize ([] : List D) = acc at h0
  induction ds generalizing acc env with
  | nil => exact fin _ env h0
  | cons d ds ih => exact step d ds acc env h0 _ fun acc' e' he => ih _ he
/-- [f d for d in ds if p d], the environment as it was -/
theorem lc_filter {g : GT} {tt : TTt} {te : ET} {is : List Nat} {Q : List D → Env → Prop} {ds : List D} {E : Env} (p : D → Bool) (f : D → D) (hl : ds.length ≤ sizeLine) (fin : Q ((ds.filter p).map f) E)
    (step : ∀ d ∈ ds, ∀ (K : D → Env → Prop) (N : Env → Prop), (p d = true → K (f d) E) → (p d = false → N E) → g d E fun e1 => tt e1 (fun b e2 => if b = true then te e2 (fun rv e3 => ∃ dv e4, fz e3 rv = some (dv, e4) ∧ K dv (wipeE e4 is)) noX else N (wipeE e2 is)) noX) : WC g tt te is Q ds E := by
  have key : ∀ (ds : List D) (acc : List D), acc.length + ds.length ≤ sizeLine → (∀ d ∈ ds, ∀ (K : D → Env → Prop) (N : Env → Prop), (p d = true → K (f d) E) → (p d = false → N E) → g d E fun e1 => tt e1 (fun b e2 => if b = true then te e2 (fun rv e3 => ∃ dv e4, fz e3 rv = some (dv, e4) ∧ K dv (wipeE e4 is)) noX else N (wipeE e2 is)) noX) →
      Q (acc ++ (ds.filter p).map f) E → wLc g tt te is Q ds acc E := by
    intro ds
    induction ds with
    | nil =>
      intro acc _ _ q
      show Q acc E
      simpa using q
    | cons d ds ih =>
      intro acc hz st q
      rw [List.length_cons] at hz
      refine st d (List.mem_cons_self ..) (fun dv e => acc.length < sizeLine ∧ wLc g tt te is Q ds (acc ++ [dv]) e) (wLc g tt te is Q ds acc) (fun hp => ⟨by omega, ?_⟩) fun hp => ?_
      · refine ih _ (by rw [List.length_append, List.length_singleton]; omega) (fun d hd => st d (List.mem_cons_of_mem _ hd)) ?_
        rw [List.filter_cons_of_pos hp] at q
        simpa using q
      · refine ih _ (by omega) (fun d hd => st d (List.mem_cons_of_mem _ hd)) ?_
        rw [List.filter_cons_of_neg (by rw [hp]; decide)] at q
        exact q
  rw [WC_eq]
  exact key ds [] (by simpa using hl) step (by simpa using fin)
/-- [f d for d in ds], the environment as it was -/
theorem lc_map {g : GT} {te : ET} {is : List Nat} {Q : List D → Env → Prop} {ds : List D} {E : Env} (f : D → D) (hl : ds.length ≤ sizeLine) (fin : Q (ds.map f) E)
    (step : ∀ d ∈ ds, ∀ K : D → Env → Prop, K (f d) E → g d E fun e1 => te e1 (fun rv e3 => ∃ dv e4, fz e3 rv = some (dv, e4) ∧ K dv (wipeE e4 is)) noX) : WC g tYesD te is Q ds E := by
  refine lc_filter (fun _ => true) f hl (by rw [List.filter_eq_self.mpr (fun _ _ => rfl)]; exact fin) fun d hd K N h1 h2 => ?_
  exact step d hd K (h1 rfl)
/-- [f d for d in ds], the environment by I -/
theorem lc_mapI {g : GT} {te : ET} {is : List Nat} {Q : List D → Env → Prop} {ds : List D} {env : Env} (f : D → D) (I : Env → Prop) (hl : ds.length ≤ sizeLine) (h0 : I env) (fin : ∀ e, I e → Q (ds.map f) e)
    (step : ∀ d ∈ ds, ∀ e, I e → ∀ K : D → Env → Prop, (∀ e', I e' → K (f d) e') → g d e fun e1 => te e1 (fun rv e3 => ∃ dv e4, fz e3 rv = some (dv, e4) ∧ K dv (wipeE e4 is)) noX) : WC g tYesD te is Q ds env := by
  refine lc_inv (fun rest acc e => acc.length + rest.length = ds.length ∧ acc ++ rest.map f = ds.map f ∧ (∀ d ∈ rest, d ∈ ds) ∧ I e) ⟨by simp, by simp, fun d h => h, h0⟩ (fun acc e ⟨_, ha, _, hi⟩ => ?_) fun d rest acc e ⟨hz, ha, hm, hi⟩ K hK => ?_
  · rw [List.map_nil, List.append_nil] at ha
    rw [ha]
    exact fin e hi
  · rw [List.length_cons] at hz
    refine step d (hm d (List.mem_cons_self ..)) e hi (fun dv e => acc.length < sizeLine ∧ K (acc ++ [dv]) e) fun e' he' => ⟨by omega, hK _ _ ⟨by rw [List.length_append, List.length_singleton]; omega, ?_, fun d hd => hm d (List.mem_cons_of_mem _ hd), he'⟩⟩
    rw [List.append_assoc]
    exact ha
theorem ite_d {p : Prop} [Decidable p] {A B : Prop} (h1 : p → A) (h2 : ¬ p → B) : if decide p = true then A else B := by
  by_cases h : p
  · exact ite_t (decide_eq_true h) (h1 h)
  · exact ite_f (decide_eq_false h) (h2 h)
theorem ite_n {p : Prop} [Decidable p] {A B : Prop} (h1 : ¬ p → A) (h2 : p → B) : if (!decide p) = true then A else B := by
  by_cases h : p
  · exact ite_f (by rw [decide_eq_true h]; rfl) (h2 h)
  · exact ite_t (by rw [decide_eq_false h]; rfl) (h1 h)
theorem ite_td {p : Prop} [Decidable p] {A B : Prop} (h : p) (a : A) : if decide p = true then A else B := ite_t (decide_eq_true h) a
theorem ite_fd {p : Prop} [Decidable p] {A B : Prop} (h : ¬ p) (b : B) : if decide p = true then A else B := ite_f (decide_eq_false h) b
theorem ite_fn {p : Prop} [Decidable p] {A B : Prop} (h : p) (b : B) : if (!decide p) = true then A else B := ite_f (by rw [decide_eq_true h]; rfl) b
theorem ite_i {p : Prop} [Decidable p] {A B : Prop} (h1 : p → A) (h2 : ¬ p → B) : if (false ^^ decide p) = true then A else B := by
  by_cases h : p
  · exact ite_t (by rw [decide_eq_true h]; rfl) (h1 h)
  · exact ite_f (by rw [decide_eq_false h]; decide) (h2 h)
theorem ite_ni {p : Prop} [Decidable p] {A B : Prop} (h1 : ¬ p → A) (h2 : p → B) : if (true ^^ decide p) = true then A else B := by
  by_cases h : p
  · exact ite_f (by rw [decide_eq_true h]; decide) (h2 h)
  · exact ite_t (by rw [decide_eq_false h]; rfl) (h1 h)
theorem ite_it {p : Prop} [Decidable p] {A B : Prop} (h : p) (a : A) : if (false ^^ decide p) = true then A else B := ite_i (fun _ => a) fun z => absurd h z
theorem ite_if {p : Prop} [Decidable p] {A B : Prop} (h : ¬ p) (b : B) : if (false ^^ decide p) = true then A else B := ite_i (fun z => absurd z h) fun _ => b
theorem ite_jt {p : Prop} [Decidable p] {A B : Prop} (h : ¬ p) (a : A) : if (true ^^ decide p) = true then A else B := ite_ni (fun _ => a) fun z => absurd z h
theorem ite_jf {p : Prop} [Decidable p] {A B : Prop} (h : p) (b : B) : if (true ^^ decide p) = true then A else B := ite_ni (fun z => absurd h z) fun _ => b
theorem set_i {e e' : Env} {i : Nat} {s : Slot} (h : e.set i s = e') : e.set i s = e' := h
theorem asg_i {e e' : Env} {i : Nat} {r : RV} (h : asgN i r e = some e') : asgN i r e = some e' := h
theorem fz_i {e : Env} {r : RV} {p : D × Env} (h : fz e r = some p) : fz e r = some p := h
theorem fzs_i {e : Env} {r : List RV} {p : List D × Env} (h : fzs e r = some p) : fzs e r = some p := h
theorem args_i {e : Env} {ms : List Bool} {r : List RV} {p : List D × Env} (h : argsE ms e r = some p) : argsE ms e r = some p := h
theorem okd_i {n : Nat} {d : D} (h : D.okD n d = true) : D.okD n d = true := h
theorem okl_i {n : Nat} {d : List D} (h : D.okL n d = true) : D.okL n d = true := h
theorem ok_int {n : Nat} {i : Int} : D.okD n (.int i) = true := by cases n <;> rfl
theorem ok_str {n : Nat} {x : Str} (h : PyData.strOk x = true) : D.okD n (.str x) = true := by cases n <;> simpa only [D.okD] using h
theorem ok_tup {n : Nat} {ds : List D} (h : D.okL n ds = true) : D.okD (n + 1) (.tup ds) = true := by simpa only [D.okD] using h
theorem ok_lst {n : Nat} {ds : List D} (h : D.okL n ds = true) : D.okD (n + 1) (.lst ds) = true := by simpa only [D.okD] using h
theorem okL_nil {n : Nat} : D.okL n [] = true := rfl
theorem okL_cons {n : Nat} {d : D} {ds : List D} (h : D.okD n d = true) (k : D.okL n ds = true) : D.okL n (d :: ds) = true := by simp only [D.okL, h, k, Bool.and_self]
theorem okL_all {n : Nat} : ∀ {ds : List D}, (∀ d ∈ ds, D.okD n d = true) → D.okL n ds = true
  | [], _ => rfl
  | d :: ds, h => okL_cons (h d (List.mem_cons_self ..)) (okL_all fun e he => h e (List.mem_cons_of_mem _ he))
theorem okL_map {α : Type} {n : Nat} {f : α → D} {xs : List α} (h : ∀ x, D.okD n (f x) = true) : D.okL n (xs.map f) = true := okL_all fun d hd => by
  obtain ⟨x, _, rfl⟩ := List.mem_map.mp hd
  exact h x
theorem okL_mapM {α : Type} {n : Nat} {f : α → D} {xs : List α} (h : ∀ x ∈ xs, D.okD n (f x) = true) : D.okL n (xs.map f) = true := okL_all fun d hd => by
  obtain ⟨x, hx, rfl⟩ := List.mem_map.mp hd
  exact h x hx
theorem mem_rg {lo : Int} {n : Nat} {d : D} (h : d ∈ rgD lo n) : ∃ i : Nat, i < n ∧ d = .int (lo + i) := by
  unfold rgD at h
  obtain ⟨i, hi, rfl⟩ := List.mem_map.mp h
  exact ⟨i, List.mem_range.mp hi, rfl⟩
theorem rg_get {lo : Int} {n i : Nat} {d : D} (h : (rgD lo n)[i]? = some d) : i < n ∧ d = .int (lo + i) := by
  unfold rgD at h
  rw [List.getElem?_map] at h
  by_cases hi : i < n
  · rw [List.getElem?_range hi] at h
    exact ⟨hi, (Option.some.inj h).symm⟩
  · rw [List.getElem?_eq_none (by simpa using hi)] at h
    cases h
theorem rg_len (lo : Int) (n : Nat) : (rgD lo n).length = n := by unfold rgD; simp
theorem atI_of {α : Type} {xs : List α} {i : Int} {j : Nat} {x : α} (h : i = j) (hx : xs[j]? = some x) : atI xs i = some x := by
  subst h
  have hl : j < xs.length := (List.getElem?_eq_some_iff.mp hx).1
  unfold atI ixN
  rw [if_pos (by omega), if_pos (by omega)]
  simpa using hx
theorem atI_get {α : Type} {xs : List α} {i : Int} (h0 : 0 ≤ i) (h1 : i < xs.length) : ∃ x, atI xs i = some x ∧ xs[i.toNat]? = some x := by
  have : i.toNat < xs.length := by omega
  refine ⟨xs[i.toNat], ?_, List.getElem?_eq_getElem this⟩
  exact atI_of (j := i.toNat) (by omega) (List.getElem?_eq_getElem this)
theorem atI_map {α : Type} {xs : List α} {f : α → D} {i : Int} {x : α} (h : atI xs i = some x) : atI (xs.map f) i = some (f x) := by
  unfold atI at h ⊢
  rw [List.length_map]
  cases e : ixN xs.length i with
  | none => rw [e] at h; cases h
  | some j =>
    rw [e] at h
    simp only [Option.bind_some] at h ⊢
    rw [List.getElem?_map, h]
    rfl
theorem len_le {n : Nat} (h : Nat.ble n 16777216 = true) : n ≤ sizeLine := by
  have e : sizeLine = 16777216 := by decide
  rw [e]
  exact Nat.le_of_ble_eq_true h
theorem div_k {i j : Int} (h1 : 0 < j) (h2 : j < 1073741824) : CDivW i j := wide_div (b := 30) h1 (by omega) (by decide) (by decide)
theorem opDiv_k {i j : Int} {Q : RV → Prop} (h1 : 0 < j) (h2 : j < 1073741824) (q : Q (.val (.int (i / j)))) : opDiv (.int i) (.int j) Q := ⟨div_k h1 h2, q⟩
theorem opMul_r {i j : Int} {Q : RV → Prop} (h1 : -18446744073709551616 < j) (h2 : j < 18446744073709551616) (q : Q (.val (.int (i * j)))) : opMul (.int i) (.int j) Q := ⟨mul_r h1 h2, q⟩
theorem opMod_k {i j : Int} {Q : RV → Prop} (h1 : 0 < j) (q : Q (.val (.int (i % j)))) : opMod (.int i) (.int j) Q := ⟨h1, q⟩
theorem int_un {a b : Int} (h : a = b) : (D.int a).un = (D.int b).un := by rw [h]
theorem int_nun {a b : Int} (h : a ≠ b) : ¬ (D.int a).un = (D.int b).un := fun e => h (D.int.inj e)
end VS

/-! VN: the mathematics of ways and movements -/
namespace VN
open PySem VS
inductive Way where
  | stay | turn | half | back | side | flip | cross | other
  deriving DecidableEq
def Way.str : Way → Str
  | .stay => "stay" | .turn => "turn" | .half => "half" | .back => "back" | .side => "side" | .flip => "flip" | .cross => "cross" | .other => "other"
def ways : List Way := [.stay, .turn, .half, .back, .side, .flip, .cross, .other]
/-- a way's place, down and right -/
def gR : Way → Int → Int → Int
  | .stay, r, _ => r | .turn, _, c => c | .half, r, _ => -r | .back, _, c => -c | .side, r, _ => r | .flip, r, _ => -r | .cross, _, c => c | .other, _, c => -c
def gC : Way → Int → Int → Int
  | .stay, _, c => c | .turn, r, _ => -r | .half, _, c => -c | .back, r, _ => r | .side, _, c => -c | .flip, _, c => c | .cross, r, _ => r | .other, r, _ => -r
abbrev dPl (r c : Int) : D := .tup [.int r, .int c]
abbrev dMv (w : Way) (r c : Int) : D := .tup [.str w.str, .int r, .int c]
def lR (n : Int) (w : Way) (d y x : Int) : Int := (gR w y x + d) % n
def lC (n : Int) (w : Way) (d y x : Int) : Int := (gC w y x + d) % n
def wayAt (i : Int) : Way := ways.getD i.toNat .stay
def Way.ix : Way → Nat
  | .stay => 0 | .turn => 1 | .half => 2 | .back => 3 | .side => 4 | .flip => 5 | .cross => 6 | .other => 7
def numF (cell : Int) (at' : Int) : Int := cell % 1000000000000000000 * (2 * at' + 3) + at' * at'
def nWay (n : Int) : Way := wayAt (n * 48271 % 1000003 % 8)
def nDown (s n : Int) : Int := n * 39373 % 999953 % s
def nRight (s n : Int) : Int := n * 62089911 % 999931 % s
theorem emod_sh {a b k n : Int} (h : a = b + n * k) : a % n = b % n := by
  subst h
  exact Int.add_mul_emod_self_left ..
/-! signs -/
def sgA : Way → Int | .stay => 1 | .turn => 0 | .half => -1 | .back => 0 | .side => 1 | .flip => -1 | .cross => 0 | .other => 0
def sgB : Way → Int | .stay => 0 | .turn => 1 | .half => 0 | .back => -1 | .side => 0 | .flip => 0 | .cross => 1 | .other => -1
def sgC : Way → Int | .stay => 0 | .turn => -1 | .half => 0 | .back => 1 | .side => 0 | .flip => 0 | .cross => 1 | .other => -1
def sgD : Way → Int | .stay => 1 | .turn => 0 | .half => -1 | .back => 0 | .side => -1 | .flip => 1 | .cross => 0 | .other => 0
def sgK (w : Way) : D := .ktup [.int (sgA w), .int (sgB w), .int (sgC w), .int (sgD w)]
def signsL : List (D × D) := ways.map fun w => (.str w.str, sgK w)
theorem sg_get {w : Way} : dget signsL (.str w.str) = some (.ktup [.int (sgA w), .int (sgB w), .int (sgC w), .int (sgD w)]) := by cases w <;> rfl
theorem sg_ok {w : Way} : (-18446744073709551616 < sgA w ∧ sgA w < 18446744073709551616) ∧ (-18446744073709551616 < sgB w ∧ sgB w < 18446744073709551616) ∧ (-18446744073709551616 < sgC w ∧ sgC w < 18446744073709551616) ∧ (-18446744073709551616 < sgD w ∧ sgD w < 18446744073709551616) := by
  cases w <;> decide
theorem mul_sA {w : Way} {j : Int} : mulOk (sgA w) j := mul_l sg_ok.1.1 sg_ok.1.2
theorem mul_sB {w : Way} {j : Int} : mulOk (sgB w) j := mul_l sg_ok.2.1.1 sg_ok.2.1.2
theorem mul_sC {w : Way} {j : Int} : mulOk (sgC w) j := mul_l sg_ok.2.2.1.1 sg_ok.2.2.1.2
theorem mul_sD {w : Way} {j : Int} : mulOk (sgD w) j := mul_l sg_ok.2.2.2.1 sg_ok.2.2.2.2
def mulW : Way → Way → Way := fun a b =>
  ((ways.find? fun w => decide (gR w 1 0 = gR b (gR a 1 0) (gC a 1 0)) && decide (gC w 1 0 = gC b (gR a 1 0) (gC a 1 0)) && decide (gR w 0 1 = gR b (gR a 0 1) (gC a 0 1)) && decide (gC w 0 1 = gC b (gR a 0 1) (gC a 0 1))).getD .stay)
def invW : Way → Way | .turn => .back | .back => .turn | w => w
theorem g_mul (a b : Way) (y x : Int) : gR b (gR a y x) (gC a y x) = gR (mulW a b) y x ∧ gC b (gR a y x) (gC a y x) = gC (mulW a b) y x := by
  have h : mulW a b = mulW a b := rfl
  cases a <;> cases b <;> exact ⟨by show _ = gR _ y x; simp [gR, gC, mulW, ways], by show _ = gC _ y x; simp [gR, gC, mulW, ways]⟩
theorem sg_mul (a b : Way) : [D.tup [.int (sgA b * sgA a + sgB b * sgC a), .int (sgA b * sgB a + sgB b * sgD a), .int (sgC b * sgA a + sgD b * sgC a), .int (sgC b * sgB a + sgD b * sgD a)]] = [D.tup [.int (sgA (mulW a b)), .int (sgB (mulW a b)), .int (sgC (mulW a b)), .int (sgD (mulW a b))]] := by
  cases a <;> cases b <;> decide +kernel
theorem mulW_assoc (a b c : Way) : mulW (mulW a b) c = mulW a (mulW b c) := by cases a <;> cases b <;> cases c <;> decide +kernel
theorem mulW_inv (a : Way) : mulW a (invW a) = .stay ∧ mulW (invW a) a = .stay ∧ invW (invW a) = a := by cases a <;> decide +kernel
theorem mulW_stay (a : Way) : mulW a .stay = a ∧ mulW .stay a = a := by cases a <;> decide +kernel
theorem gR_lin (w : Way) (a b c d : Int) : gR w (a + b) (c + d) = gR w a c + gR w b d := by cases w <;> simp only [gR] <;> omega
theorem gC_lin (w : Way) (a b c d : Int) : gC w (a + b) (c + d) = gC w a c + gC w b d := by cases w <;> simp only [gC] <;> omega
theorem emod_as (y n : Int) : y % n = y - n * (y / n) := Int.emod_def y n
theorem gR_mod (w : Way) (n y x d : Int) : (gR w (y % n) (x % n) + d) % n = (gR w y x + d) % n := by
  have hy := emod_as y n
  have hx := emod_as x n
  cases w <;> simp only [gR] <;> first
    | exact emod_sh (k := -(y / n)) (by rw [hy, Int.mul_neg]; generalize n * (y / n) = t; omega)
    | exact emod_sh (k := (y / n)) (by rw [hy]; generalize n * (y / n) = t; omega)
    | exact emod_sh (k := -(x / n)) (by rw [hx, Int.mul_neg]; generalize n * (x / n) = t; omega)
    | exact emod_sh (k := (x / n)) (by rw [hx]; generalize n * (x / n) = t; omega)
theorem gC_mod (w : Way) (n y x d : Int) : (gC w (y % n) (x % n) + d) % n = (gC w y x + d) % n := by
  have hy := emod_as y n
  have hx := emod_as x n
  cases w <;> simp only [gC] <;> first
    | exact emod_sh (k := -(y / n)) (by rw [hy, Int.mul_neg]; generalize n * (y / n) = t; omega)
    | exact emod_sh (k := (y / n)) (by rw [hy]; generalize n * (y / n) = t; omega)
    | exact emod_sh (k := -(x / n)) (by rw [hx, Int.mul_neg]; generalize n * (x / n) = t; omega)
    | exact emod_sh (k := (x / n)) (by rw [hx]; generalize n * (x / n) = t; omega)
/-! movements -/
structure Mv where
  w : Way
  d : Int
  r : Int
  deriving DecidableEq
abbrev dM (m : Mv) : D := dMv m.w m.d m.r
/-- of a side -/
def Mv.ok (n : Int) (m : Mv) : Prop := 0 ≤ m.d ∧ m.d < n ∧ 0 ≤ m.r ∧ m.r < n
def thn (n : Int) (a b : Mv) : Mv := ⟨mulW a.w b.w, lR n b.w b.d a.d a.r, lC n b.w b.r a.d a.r⟩
def inv (n : Int) (a : Mv) : Mv := ⟨invW a.w, -gR (invW a.w) a.d a.r % n, -gC (invW a.w) a.d a.r % n⟩
def stayM : Mv := ⟨.stay, 0, 0⟩
theorem lR_ok {n : Int} (h : 0 < n) (w : Way) (d y x : Int) : 0 ≤ lR n w d y x ∧ lR n w d y x < n := ⟨Int.emod_nonneg _ (by omega), Int.emod_lt_of_pos _ h⟩
theorem lC_ok {n : Int} (h : 0 < n) (w : Way) (d y x : Int) : 0 ≤ lC n w d y x ∧ lC n w d y x < n := ⟨Int.emod_nonneg _ (by omega), Int.emod_lt_of_pos _ h⟩
theorem thn_ok {n : Int} (h : 0 < n) (a b : Mv) : (thn n a b).ok n := ⟨(lR_ok h ..).1, (lR_ok h ..).2, (lC_ok h ..).1, (lC_ok h ..).2⟩
theorem inv_ok {n : Int} (h : 0 < n) (a : Mv) : (inv n a).ok n := ⟨Int.emod_nonneg _ (by omega), Int.emod_lt_of_pos _ h, Int.emod_nonneg _ (by omega), Int.emod_lt_of_pos _ h⟩
theorem stayM_ok {n : Int} (h : 0 < n) : stayM.ok n := ⟨Int.le_refl _, h, Int.le_refl _, h⟩
/-- then leads as both do -/
theorem lR_thn (n : Int) (a b : Mv) (y x : Int) : lR n (thn n a b).w (thn n a b).d y x = lR n b.w b.d (lR n a.w a.d y x) (lC n a.w a.r y x) := by
  show (gR (mulW a.w b.w) y x + (gR b.w a.d a.r + b.d) % n) % n = (gR b.w ((gR a.w y x + a.d) % n) ((gC a.w y x + a.r) % n) + b.d) % n
  rw [gR_mod, gR_lin, (g_mul a.w b.w y x).1, Int.add_emod_emod, Int.add_assoc]
theorem lC_thn (n : Int) (a b : Mv) (y x : Int) : lC n (thn n a b).w (thn n a b).r y x = lC n b.w b.r (lR n a.w a.d y x) (lC n a.w a.r y x) := by
  show (gC (mulW a.w b.w) y x + (gC b.w a.d a.r + b.r) % n) % n = (gC b.w ((gR a.w y x + a.d) % n) ((gC a.w y x + a.r) % n) + b.r) % n
  rw [gC_mod, gC_lin, (g_mul a.w b.w y x).2, Int.add_emod_emod, Int.add_assoc]
theorem thn_assoc (n : Int) (a b c : Mv) : thn n (thn n a b) c = thn n a (thn n b c) := by
  have h1 := lR_thn n b c a.d a.r
  have h2 := lC_thn n b c a.d a.r
  show (⟨_, _, _⟩ : Mv) = ⟨_, _, _⟩
  rw [Mv.mk.injEq]
  exact ⟨mulW_assoc _ _ _, h1.symm, h2.symm⟩
theorem gR_neg (w : Way) (a b : Int) : gR w (-a) (-b) = -gR w a b := by cases w <;> simp only [gR]
theorem gC_neg (w : Way) (a b : Int) : gC w (-a) (-b) = -gC w a b := by cases w <;> simp only [gC]
theorem g_stay (y x : Int) : gR .stay y x = y ∧ gC .stay y x = x := ⟨rfl, rfl⟩
theorem thn_inv {n : Int} (hn : 0 < n) (a : Mv) : thn n a (inv n a) = stayM := by
  show (⟨_, _, _⟩ : Mv) = ⟨_, _, _⟩
  rw [Mv.mk.injEq]
  refine ⟨(mulW_inv a.w).1, ?_, ?_⟩
  · show (gR (invW a.w) a.d a.r + -gR (invW a.w) a.d a.r % n) % n = 0
    rw [Int.add_emod_emod, Int.add_right_neg, Int.zero_emod]
  · show (gC (invW a.w) a.d a.r + -gC (invW a.w) a.d a.r % n) % n = 0
    rw [Int.add_emod_emod, Int.add_right_neg, Int.zero_emod]
theorem inv_thn {n : Int} (hn : 0 < n) (a : Mv) (ha : a.ok n) : thn n (inv n a) a = stayM := by
  show (⟨_, _, _⟩ : Mv) = ⟨_, _, _⟩
  rw [Mv.mk.injEq]
  have e := g_mul (invW a.w) a.w a.d a.r
  rw [(mulW_inv a.w).2.1] at e
  refine ⟨(mulW_inv a.w).2.1, ?_, ?_⟩
  · show (gR a.w (-gR (invW a.w) a.d a.r % n) (-gC (invW a.w) a.d a.r % n) + a.d) % n = 0
    rw [gR_mod, gR_neg, e.1, (g_stay _ _).1, Int.add_left_neg, Int.zero_emod]
  · show (gC a.w (-gR (invW a.w) a.d a.r % n) (-gC (invW a.w) a.d a.r % n) + a.r) % n = 0
    rw [gC_mod, gC_neg, e.2, (g_stay _ _).2, Int.add_left_neg, Int.zero_emod]
theorem thn_stay {n : Int} (a : Mv) (ha : a.ok n) : thn n a stayM = a := by
  obtain ⟨h1, h2, h3, h4⟩ := ha
  cases a
  show (⟨_, _, _⟩ : Mv) = ⟨_, _, _⟩
  rw [Mv.mk.injEq]
  refine ⟨(mulW_stay _).1, ?_, ?_⟩
  · show (_ + 0) % n = _
    rw [Int.add_zero]; exact Int.emod_eq_of_lt h1 h2
  · show (_ + 0) % n = _
    rw [Int.add_zero]; exact Int.emod_eq_of_lt h3 h4
theorem g_zero (w : Way) : gR w 0 0 = 0 ∧ gC w 0 0 = 0 := by cases w <;> exact ⟨rfl, rfl⟩
theorem stay_thn {n : Int} (a : Mv) (ha : a.ok n) : thn n stayM a = a := by
  obtain ⟨h1, h2, h3, h4⟩ := ha
  cases a
  show (⟨_, _, _⟩ : Mv) = ⟨_, _, _⟩
  rw [Mv.mk.injEq]
  refine ⟨(mulW_stay _).2, ?_, ?_⟩
  · show (gR _ 0 0 + _) % n = _
    rw [(g_zero _).1, Int.zero_add]; exact Int.emod_eq_of_lt h1 h2
  · show (gC _ 0 0 + _) % n = _
    rw [(g_zero _).2, Int.zero_add]; exact Int.emod_eq_of_lt h3 h4
theorem inv_uniq {n : Int} (hn : 0 < n) {a b : Mv} (ha : a.ok n) (hb : b.ok n) (h : thn n a b = stayM) : b = inv n a := by
  have : thn n (inv n a) (thn n a b) = thn n (inv n a) stayM := by rw [h]
  rw [← thn_assoc, inv_thn hn a ha, stay_thn b hb, thn_stay _ (inv_ok hn a)] at this
  exact this
theorem Way.str_inj {a b : Way} (h : a.str = b.str) : a = b := by
  cases a <;> cases b <;> first | rfl | exact absurd h (by decide +kernel)
theorem dM_inj {a b : Mv} (h : dM a = dM b) : a = b := by
  cases a; cases b
  simp only [dM, dMv, D.tup.injEq, List.cons.injEq, D.str.injEq, D.int.injEq] at h
  obtain ⟨h1, h2, h3, _⟩ := h
  rw [Way.str_inj h1, h2, h3]
def nMv (s n : Int) : Mv := ⟨nWay n, nDown s n, nRight s n⟩
theorem mem_ways {d : D} (hd : d ∈ [D.str "stay", .str "turn", .str "half", .str "back", .str "side", .str "flip", .str "cross", .str "other"]) : ∃ w : Way, d = .str w.str := by
  simp only [List.mem_cons, List.not_mem_nil, or_false] at hd
  rcases hd with h | h | h | h | h | h | h | h <;> subst h
  · exact ⟨.stay, rfl⟩
  · exact ⟨.turn, rfl⟩
  · exact ⟨.half, rfl⟩
  · exact ⟨.back, rfl⟩
  · exact ⟨.side, rfl⟩
  · exact ⟨.flip, rfl⟩
  · exact ⟨.cross, rfl⟩
  · exact ⟨.other, rfl⟩
theorem ways_filter (w : Way) : ([D.str "stay", .str "turn", .str "half", .str "back", .str "side", .str "flip", .str "cross", .str "other"].filter fun d => decide (d = .str w.str)) = [.str w.str] := by
  cases w <;> decide +kernel
theorem sg_inj {v w : Way} (h : D.tup [.int (sgA v), .int (sgB v), .int (sgC v), .int (sgD v)] = D.tup [.int (sgA w), .int (sgB w), .int (sgC w), .int (sgD w)]) : v = w := by
  simp only [D.tup.injEq, List.cons.injEq, D.int.injEq] at h
  revert h
  cases v <;> cases w <;> decide
theorem ok_w {n : Nat} {w : Way} : D.okD n (.str w.str) = true := ok_str (by cases w <;> decide +kernel)
theorem ok_M {n : Nat} {m : Mv} : D.okD (n + 1) (dM m) = true := ok_tup (okL_cons ok_w (okL_cons ok_int (okL_cons ok_int okL_nil)))
theorem gR_sg (w : Way) (r c : Int) : gR w r c = sgA w * r + sgB w * c := by cases w <;> simp [gR, sgA, sgB]
theorem gC_sg (w : Way) (r c : Int) : gC w r c = sgC w * r + sgD w * c := by cases w <;> simp [gC, sgC, sgD]
def Way.pick {α : Type} (a0 a1 a2 a3 a4 a5 a6 a7 : α) : Way → α
  | .stay => a0 | .turn => a1 | .half => a2 | .back => a3 | .side => a4 | .flip => a5 | .cross => a6 | .other => a7
end VN

/-! VO: powers of a movement -/
namespace VN
open PySem VS
def powM (n : Int) (m : Mv) : Nat → Mv
  | 0 => stayM
  | k + 1 => thn n (powM n m k) m
theorem powM_ok {n : Int} (hn : 0 < n) (m : Mv) : ∀ k, (powM n m k).ok n
  | 0 => stayM_ok hn
  | k + 1 => thn_ok hn _ _
theorem powM_add {n : Int} (hn : 0 < n) (m : Mv) (a : Nat) : ∀ b, powM n m (a + b) = thn n (powM n m a) (powM n m b)
  | 0 => (thn_stay _ (powM_ok hn m a)).symm
  | b + 1 => by
    show thn n (powM n m (a + b)) m = thn n (powM n m a) (thn n (powM n m b) m)
    rw [powM_add hn m a b, thn_assoc]
theorem powM_w {n : Int} (m : Mv) : (powM n m 4).w = .stay := by
  show mulW (mulW (mulW (mulW .stay m.w) m.w) m.w) m.w = .stay
  cases m.w <;> decide
theorem powM_4k {n : Int} (hn : 0 < n) (m : Mv) : ∀ k : Nat, powM n m (4 * k) = ⟨.stay, (k * (powM n m 4).d) % n, (k * (powM n m 4).r) % n⟩
  | 0 => by simp [powM, stayM]
  | k + 1 => by
    rw [show 4 * (k + 1) = 4 * k + 4 by omega, powM_add hn m, powM_4k hn m k]
    have hw := powM_w (n := n) m
    generalize powM n m 4 = s at *
    obtain ⟨w, d, r⟩ := s
    simp only at hw
    subst hw
    show (⟨mulW .stay .stay, (_ % n + d) % n, (_ % n + r) % n⟩ : Mv) = _
    rw [Mv.mk.injEq]
    refine ⟨by decide, ?_, ?_⟩
    · rw [Int.emod_add_emod]; congr 1; push_cast; rw [Int.add_mul, Int.one_mul]
    · rw [Int.emod_add_emod]; congr 1; push_cast; rw [Int.add_mul, Int.one_mul]
theorem powM_4n {n : Int} (hn : 0 < n) (m : Mv) : powM n m (4 * n.toNat) = stayM := by
  rw [powM_4k hn, show ((n.toNat : Nat) : Int) = n by omega]
  simp [stayM]
/-- the order, less one -/
def ordK (n : Int) (m : Mv) : Nat := ((List.range 100).find? fun k => decide (powM n m (k + 1) = stayM)).getD 0
theorem powM_1 {n : Int} (m : Mv) (ok : m.ok n) : powM n m 1 = m := stay_thn m ok
theorem mv_two {n a b c d : Int} {w v : Way} : [D.int n, D.tup [.str w.str, .int a, .int b], D.tup [.str v.str, .int c, .int d]] = [.int n, dM ⟨w, a, b⟩, dM ⟨v, c, d⟩] := rfl
theorem mv_one {n a b : Int} {w : Way} : [D.int n, D.tup [.str w.str, .int a, .int b]] = [.int n, dM ⟨w, a, b⟩] := rfl
end VN

/-! VT: the table of ways -/
namespace VN
open PySem VS
abbrev wayD : List D := [D.str "stay", .str "turn", .str "half", .str "back", .str "side", .str "flip", .str "cross", .str "other"]
def wayS (x : Str) : Way := (ways.find? fun w => decide (w.str = x)).getD .stay
def mulD : D → D → D
  | .str x, .str y => .str (mulW (wayS x) (wayS y)).str
  | _, _ => .non
def tabRow (d : D) (j : Nat) (acc : List (D × D)) : List (D × D) := (wayD.take j).foldl (fun acc e => dput acc (.tup [d, e]) (mulD d e)) acc
def tabTo (i : Nat) : List (D × D) := (wayD.take i).foldl (fun acc d => tabRow d 8 acc) []
def tabD : List (D × D) := tabTo 8
end VN

/-! VM: all movements, in order; sorting them -/
namespace VN
open PySem VS PySem.W
def Way.rk : Way → Nat | .back => 0 | .cross => 1 | .flip => 2 | .half => 3 | .other => 4 | .side => 5 | .stay => 6 | .turn => 7
def sWays : List Way := [.back, .cross, .flip, .half, .other, .side, .stay, .turn]
theorem rk_inj {a b : Way} (h : a.rk = b.rk) : a = b := by cases a <;> cases b <;> first | rfl | cases h
def leM (a b : Mv) : Prop := a.w.rk < b.w.rk ∨ (a.w = b.w ∧ (a.d < b.d ∨ (a.d = b.d ∧ a.r ≤ b.r)))
instance (a b : Mv) : Decidable (leM a b) := by unfold leM; infer_instance
theorem way_lt (a b : Way) : dataLt (.str a.str) (.str b.str) = decide (a.rk < b.rk) := by cases a <;> cases b <;> decide +kernel
theorem alike_M (a b : Mv) : alike (dM a).toPy (dM b).toPy = true := by simp [D.toPy, D.toPyL, alike, alikeAll]
theorem leD_M (a b : Mv) : leD (dM a) (dM b) = decide (leM a b) := by
  show (!dataLt (.tuple [.str b.w.str, .int b.d, .int b.r]) (.tuple [.str a.w.str, .int a.d, .int a.r])) = _
  rw [dataLt_tuple, dataLt_cons (by simp [alike]), dataLt_cons (by simp [alike]), dataLt_cons (by simp [alike]), way_lt, dataLt_int, dataLt_int]
  have e0 : PyProof.Rows.lexLt PyProof.Rows.itemOrd (keyToksAll []) (keyToksAll []) = false := PyProof.Rows.lex_irrefl _
  rw [e0]
  have ew : PyData.eqv (.str b.w.str) (.str a.w.str) = decide (b.w = a.w) := by
    by_cases h : b.w = a.w
    · rw [h]; simp [PyData.eqv]
    · rw [decide_eq_false h]
      simp only [PyData.eqv, beq_eq_false_iff_ne, ne_eq]
      exact fun e => h (Way.str_inj e)
  have ei : ∀ x y : Int, PyData.eqv (.int x) (.int y) = decide (x = y) := fun x y => by
    simp only [PyData.eqv]
    by_cases h : x = y
    · simp [h]
    · simp [h]
  rw [ew, ei, ei]
  obtain ⟨aw, ad, ar⟩ := a
  obtain ⟨bw, bd, br⟩ := b
  unfold leM
  simp only
  by_cases h : bw = aw
  · subst h
    simp only [decide_true, if_true, Nat.lt_irrefl, false_or, true_and]
    by_cases h2 : bd = ad
    · subst h2
      simp only [decide_true, if_true, Int.lt_irrefl, false_or, true_and]
      by_cases h3 : br = ar
      · subst h3; simp
      · simp only [h3, decide_false, Bool.false_eq_true, if_false]
        by_cases h4 : br < ar
        · simp [h4]
        · simp [h4]; omega
    · simp only [h2, decide_false, Bool.false_eq_true, if_false]
      by_cases h4 : bd < ad
      · simp [h4]; omega
      · simp [h4]; omega
  · have hr : bw.rk ≠ aw.rk := fun e => h (rk_inj e)
    have h' : ¬ aw = bw := fun e => h e.symm
    simp only [h, decide_false, Bool.false_eq_true, if_false, h', false_and, or_false]
    by_cases h4 : bw.rk < aw.rk
    · simp [h4]; omega
    · simp [h4]; omega
theorem ok50_M {m : Mv} : D.okD 50 (dM m) = true := ok_M
theorem sortable_M (L : List Mv) : sortable (L.map dM) := ⟨okL_map fun x => ok50_M, fun d hd e he => by
  obtain ⟨a, _, rfl⟩ := List.mem_map.mp hd
  obtain ⟨b, _, rfl⟩ := List.mem_map.mp he
  exact alike_M a b⟩
theorem sortOk_M (L : List Mv) : sortOk (L.map dM) := ⟨(sortable_M L).1, (sortable_M L).2, .inl fun d hd => by
  rw [List.map_map] at hd
  obtain ⟨a, _, rfl⟩ := List.mem_map.mp hd
  exact ⟨_, _, rfl⟩⟩
/-- the movements sorted -/
def sortM (L : List Mv) : List Mv := L.mergeSort fun a b => decide (leM a b)
theorem sort_M (L : List Mv) : (L.map dM).mergeSort leD = (sortM L).map dM := (sort_maps dM (fun a _ b _ => (leD_M a b).symm)).symm
theorem leM_anti {a b : Mv} (h1 : leM a b) (h2 : leM b a) : a = b := by
  obtain ⟨aw, ad, ar⟩ := a
  obtain ⟨bw, bd, br⟩ := b
  unfold leM at h1 h2
  simp only at h1 h2
  have hw : aw = bw := by
    rcases h1 with h1 | ⟨h1, _⟩
    · rcases h2 with h2 | ⟨h2, _⟩
      · omega
      · exact h2.symm
    · exact h1
  subst hw
  rw [Mv.mk.injEq]
  refine ⟨rfl, ?_, ?_⟩ <;> omega
theorem leM_trans {a b c : Mv} (h1 : leM a b) (h2 : leM b c) : leM a c := by
  obtain ⟨aw, ad, ar⟩ := a
  obtain ⟨bw, bd, br⟩ := b
  obtain ⟨cw, cd, cr⟩ := c
  unfold leM at *
  simp only at *
  rcases h1 with h1 | ⟨rfl, h1⟩
  · rcases h2 with h2 | ⟨rfl, h2⟩
    · left; omega
    · left; omega
  · rcases h2 with h2 | ⟨rfl, h2⟩
    · left; omega
    · right; refine ⟨rfl, ?_⟩; omega
theorem leM_total (a b : Mv) : leM a b ∨ leM b a := by
  obtain ⟨aw, ad, ar⟩ := a
  obtain ⟨bw, bd, br⟩ := b
  unfold leM
  simp only
  by_cases h : aw.rk < bw.rk
  · left; left; exact h
  · by_cases h' : bw.rk < aw.rk
    · right; left; exact h'
    · obtain rfl : aw = bw := rk_inj (by omega)
      by_cases h3 : ad < bd ∨ (ad = bd ∧ ar ≤ br)
      · left; right; exact ⟨rfl, h3⟩
      · right; right; refine ⟨rfl, ?_⟩; omega
theorem sortM_pw (L : List Mv) : (sortM L).Pairwise leM := by
  have := List.pairwise_mergeSort (le := fun a b : Mv => decide (leM a b)) (fun a b c h1 h2 => by
    simp only [decide_eq_true_eq] at *; exact leM_trans h1 h2) (fun a b => by
    simp only [Bool.or_eq_true, decide_eq_true_eq]; exact leM_total a b) L
  exact this.imp fun h => of_decide_eq_true h
theorem sortM_perm (L : List Mv) : (sortM L).Perm L := List.mergeSort_perm _ _
theorem mem_sortM {L : List Mv} {m : Mv} : m ∈ sortM L ↔ m ∈ L := (sortM_perm L).mem_iff
theorem sortM_eq {L M : List Mv} (hp : M.Perm L) (ho : M.Pairwise leM) : sortM L = M :=
  List.Perm.eq_of_pairwise (le := leM) (fun a b _ _ h1 h2 => leM_anti h1 h2) (sortM_pw L) ho ((sortM_perm L).trans hp.symm)
theorem sortM_congr {L M : List Mv} (hp : L.Perm M) : sortM L = sortM M := sortM_eq ((sortM_perm M).trans hp.symm) (sortM_pw M)
theorem perm_of_mem {L M : List Mv} (h1 : L.Nodup) (h2 : M.Nodup) (h : ∀ m, m ∈ L ↔ m ∈ M) : L.Perm M := (List.perm_ext_iff_of_nodup h1 h2).mpr h
theorem sortM_mem {L M : List Mv} (h1 : L.Nodup) (h2 : M.Nodup) (h : ∀ m, m ∈ L ↔ m ∈ M) : sortM L = sortM M := sortM_congr (perm_of_mem h1 h2 h)
theorem sortM_id {L : List Mv} (h : L.Pairwise leM) : sortM L = L := sortM_eq (.refl _) h
/-! all of a side -/
def rowM (w : Way) (d : Int) (n : Nat) : List Mv := (List.range n).map fun r => ⟨w, d, (r : Nat)⟩
def ofW (n : Nat) (w : Way) : List Mv := (List.range n).flatMap fun d => rowM w (d : Nat) n
def allOf (ws : List Way) (n : Nat) : List Mv := ws.flatMap (ofW n)
def allM (n : Nat) : List Mv := allOf sWays n
theorem mem_ofW {n : Nat} {w : Way} {m : Mv} : m ∈ ofW n w ↔ m.w = w ∧ m.ok n := by
  unfold ofW rowM Mv.ok
  simp only [List.mem_flatMap, List.mem_map, List.mem_range]
  constructor
  · rintro ⟨d, hd, r, hr, rfl⟩
    refine ⟨rfl, ?_, ?_, ?_, ?_⟩ <;> simp only <;> omega
  · rintro ⟨rfl, h1, h2, h3, h4⟩
    obtain ⟨w, d, r⟩ := m
    simp only at *
    refine ⟨d.toNat, by omega, r.toNat, by omega, ?_⟩
    rw [Mv.mk.injEq]
    refine ⟨rfl, ?_, ?_⟩ <;> omega
theorem mem_allOf {ws : List Way} {n : Nat} {m : Mv} : m ∈ allOf ws n ↔ m.w ∈ ws ∧ m.ok n := by
  unfold allOf
  simp only [List.mem_flatMap, mem_ofW]
  constructor
  · rintro ⟨w, hw, rfl, h⟩; exact ⟨hw, h⟩
  · rintro ⟨hw, h⟩; exact ⟨_, hw, rfl, h⟩
theorem mem_sWays (w : Way) : w ∈ sWays := by cases w <;> decide
theorem mem_allM {n : Nat} {m : Mv} : m ∈ allM n ↔ m.ok n := by rw [allM, mem_allOf]; simp [mem_sWays]
theorem ofW_pw (n : Nat) (w : Way) : (ofW n w).Pairwise fun a b => leM a b ∧ a ≠ b := by
  unfold ofW
  rw [List.pairwise_flatMap]
  refine ⟨fun d hd => ?_, ?_⟩
  · unfold rowM
    rw [List.pairwise_map]
    refine List.pairwise_lt_range.imp fun h => ?_
    unfold leM
    refine ⟨.inr ⟨rfl, .inr ⟨rfl, ?_⟩⟩, fun e => ?_⟩
    · simp only; omega
    · simp only [Mv.mk.injEq] at e; omega
  · refine List.pairwise_lt_range.imp fun h => ?_
    intro a ha b hb
    unfold rowM at ha hb
    obtain ⟨r1, _, rfl⟩ := List.mem_map.mp ha
    obtain ⟨r2, _, rfl⟩ := List.mem_map.mp hb
    unfold leM
    refine ⟨.inr ⟨rfl, .inl ?_⟩, fun e => ?_⟩
    · simp only; omega
    · simp only [Mv.mk.injEq] at e; omega
theorem sWays_pw : sWays.Pairwise fun a b => a.rk < b.rk := by decide
theorem allM_pw (n : Nat) : (allM n).Pairwise fun a b => leM a b ∧ a ≠ b := by
  unfold allM allOf
  rw [List.pairwise_flatMap]
  refine ⟨fun w _ => ofW_pw n w, sWays_pw.imp fun h => ?_⟩
  intro a ha b hb
  obtain ⟨rfl, _⟩ := mem_ofW.mp ha
  obtain ⟨rfl, _⟩ := mem_ofW.mp hb
  refine ⟨.inl h, fun e => ?_⟩
  rw [e] at h
  omega
theorem ofW_len (n : Nat) (w : Way) : (ofW n w).length = n * n := by
  unfold ofW rowM
  rw [List.length_flatMap]
  simp only [List.length_map, List.length_range]
  have : ∀ (m : Nat), (List.map (fun _ => n) (List.range m)).sum = m * n := fun m => by
    induction m with
    | zero => simp
    | succ m ih => rw [List.range_succ, List.map_append, List.sum_append, ih]; simp [Nat.add_mul]
  exact this n
theorem allOf_len (ws : List Way) (n : Nat) : (allOf ws n).length = ws.length * (n * n) := by
  unfold allOf
  rw [List.length_flatMap]
  induction ws with
  | nil => simp
  | cons w ws ih => rw [List.map_cons, List.sum_cons, ih, ofW_len, List.length_cons, Nat.add_mul]; omega
end VN
namespace VN
open PySem VS PySem.W
end VN
namespace VN
open PySem VS PySem.W
theorem allOf_take {ws : List Way} {i n : Nat} {w : Way} (h : ws[i]? = some w) : allOf (ws.take (i + 1)) n = allOf (ws.take i) n ++ (List.range n).flatMap fun d => rowM w (d : Nat) n := by
  have : ws.take (i + 1) = ws.take i ++ [w] := by rw [List.take_add_one, h]; rfl
  rw [this]
  unfold allOf
  rw [List.flatMap_append]
  simp [ofW]
theorem rows_len (w : Way) (n j : Nat) : ((List.range j).flatMap fun d => rowM w (d : Nat) n).length = j * n := by
  rw [List.length_flatMap]
  simp only [rowM, List.length_map, List.length_range]
  induction j with
  | zero => simp
  | succ m ih => rw [List.range_succ, List.map_append, List.sum_append, ih]; simp [Nat.add_mul]
theorem rowM_succ (w : Way) (d : Int) (k : Nat) : rowM w d (k + 1) = rowM w d k ++ [⟨w, d, (k : Nat)⟩] := by
  unfold rowM
  rw [List.range_succ, List.map_append]
  rfl
end VN
namespace VN
open PySem VS PySem.W
end VN
namespace VN
open PySem VS PySem.W
theorem ways_get {i : Nat} {d : D} (h : wayD[i]? = some d) : ∃ w : Way, ways[i]? = some w ∧ d = .str w.str := by
  have hi : i < 8 := (List.getElem?_eq_some_iff.mp h).1
  have : i = 0 ∨ i = 1 ∨ i = 2 ∨ i = 3 ∨ i = 4 ∨ i = 5 ∨ i = 6 ∨ i = 7 := by omega
  rcases this with e | e | e | e | e | e | e | e <;> subst e <;> cases h <;> exact ⟨_, rfl, rfl⟩
theorem okL_M {n : Nat} {L : List Mv} : D.okL (n + 1) (L.map dM) = true := okL_map fun _ => ok_M
end VN
namespace VN
open PySem VS PySem.W
end VN
namespace VN
theorem allM_len (n : Nat) : (allM n).length = 8 * (n * n) := allOf_len sWays n
end VN

/-! VC: carpets as functions of places -/
namespace VN
open PySem VS L2 TL
/-! dicts by values -/
theorem dget_put (kvs : List (D × D)) (k v k' : D) : dget (dput kvs k v) k' = if k' = k then some v else dget kvs k' := by
  unfold dput
  split
  · rename_i h
    induction kvs with
    | nil => simp at h
    | cons p r ih =>
      rw [List.map_cons, dget_cons, dget_cons]
      by_cases e : p.1 = k
      · simp only [e, if_true]
        by_cases e2 : k' = k
        · simp [e2]
        · have e3 : ¬ k = k' := fun z => e2 z.symm
          simp only [e2, e3, if_false]
          by_cases h2 : (r.any fun p => decide (p.1 = k)) = true
          · rw [ih h2, if_neg e2]
          · congr 1
            refine (List.map_congr_left (g := id) fun q hq => ?_).trans (List.map_id r)
            rw [if_neg fun z => h2 (List.any_eq_true.mpr ⟨q, hq, decide_eq_true z⟩)]; rfl
      · have h2 : (r.any fun p => decide (p.1 = k)) = true := by simpa [e] using h
        simp only [e, if_false]
        rw [ih h2]
        by_cases e4 : p.1 = k'
        · have : ¬ k' = k := fun z => e (e4.trans z)
          simp [e4, this]
        · simp [e4]
  · rename_i h
    induction kvs with
    | nil =>
      rw [List.nil_append, dget_cons]
      by_cases e : k' = k
      · simp [e]
      · have : ¬ k = k' := fun z => e z.symm
        simp [e, this]
    | cons p r ih =>
      have h1 : ¬ p.1 = k := fun z => h (by simp [z])
      have h2 : ¬ (r.any fun p => decide (p.1 = k)) = true := fun z => h (by simp at z ⊢; exact .inr z)
      rw [List.cons_append, dget_cons, dget_cons, ih h2]
      by_cases e4 : p.1 = k'
      · have : ¬ k' = k := fun z => h1 (e4.trans z)
        simp [e4, this]
      · simp [e4]
theorem dput_len (kvs : List (D × D)) (k v : D) : (dput kvs k v).length ≤ kvs.length + 1 := by
  unfold dput
  split
  · simp
  · simp
theorem sl_of {n : Nat} (h : n ≤ 1000000) : n < sizeLine := by
  have e : sizeLine = 16777216 := by decide
  omega
theorem sle_of {n : Nat} (h : n ≤ 1000000) : n ≤ sizeLine := Nat.le_of_lt (sl_of h)
theorem dPl_inj {a b c d : Int} (h : dPl a b = dPl c d) : a = c ∧ b = d := by
  simp only [dPl, D.tup.injEq, List.cons.injEq, D.int.injEq, and_true] at h
  exact h
/-! rows, carpets -/
abbrev Cp := Int → Int → Nat
def sgn (x : Nat) : D := .str ⟨#[x]⟩
def rowL (n : Nat) (g : Int → Nat) : List Nat := (List.range n).map fun c => g (c : Nat)
def rowS (n : Nat) (g : Int → Nat) : Str := ⟨(rowL n g).toArray⟩
def cpD (n : Nat) (f : Cp) : D := .tup ((List.range n).map fun r => .str (rowS n (f (r : Nat))))
theorem rowS_len (n : Nat) (g : Int → Nat) : (rowS n g).length = n := by
  show (rowL n g).toArray.size = n
  simp [rowL]
theorem rowL_get {n : Nat} {g : Int → Nat} {i : Int} (h0 : 0 ≤ i) (h1 : i < n) : atI (rowL n g) i = some (g i) := by
  refine atI_of (j := i.toNat) (by omega) ?_
  unfold rowL
  rw [List.getElem?_map, List.getElem?_range (by omega)]
  simp only [Option.map_some]
  rw [show ((i.toNat : Nat) : Int) = i by omega]
theorem idx_row {n : Nat} {g : Int → Nat} {i : Int} {Q : RV → Prop} (h0 : 0 ≤ i) (h1 : i < n) (hn : n ≤ 1000000) (q : Q (.val (sgn (g i)))) : opIdx (.str (rowS n g)) (.int i) Q :=
  ⟨by rw [rowS_len]; exact sle_of hn, _, by show atI (rowL n g).toArray.toList i = _; rw [List.toList_toArray]; exact rowL_get h0 h1, q⟩
theorem idx_cp {n : Nat} {f : Cp} {i : Int} {Q : RV → Prop} (h0 : 0 ≤ i) (h1 : i < n) (q : Q (.val (.str (rowS n (f i))))) : opIdx (cpD n f) (.int i) Q := by
  refine ⟨_, atI_of (j := i.toNat) (by omega) ?_, q⟩
  rw [List.getElem?_map, List.getElem?_range (by omega)]
  simp only [Option.map_some]
  rw [show ((i.toNat : Nat) : Int) = i by omega]
theorem len_cp {n : Nat} {f : Cp} {Q : RV → Prop} (q : Q (.val (.int n))) : opLen [cpD n f] Q := by
  show Q (.val (.int (((List.range n).map fun r => D.str (rowS n (f (r : Nat)))).length : Nat)))
  rw [List.length_map, List.length_range]
  exact q
def okG (g : Int → Nat) : Prop := ∀ c, g c < 1114112
def okC (f : Cp) : Prop := ∀ r, okG (f r)
theorem strOk_row {n : Nat} {g : Int → Nat} (h : okG g) : PyData.strOk (rowS n g) = true := by
  show (rowL n g).toArray.all (· < 0x110000) = true
  rw [List.all_toArray, List.all_eq_true]
  intro x hx
  unfold rowL at hx
  obtain ⟨c, _, rfl⟩ := List.mem_map.mp hx
  exact decide_eq_true (h _)
theorem ok_row {n k : Nat} {g : Int → Nat} (h : okG g) : D.okD k (.str (rowS n g)) = true := ok_str (strOk_row h)
theorem ok_sgn {k : Nat} {x : Nat} (h : x < 1114112) : D.okD k (sgn x) = true := ok_str (by show (#[x] : Array Nat).all (· < 0x110000) = true; simp [h])
theorem ok_cp {n k : Nat} {f : Cp} (h : okC f) : D.okD (k + 1) (cpD n f) = true := ok_tup (okL_map fun r => ok_row (h _))
theorem rowS_ext {n : Nat} {g h : Int → Nat} : rowS n g = rowS n h ↔ ∀ c : Int, 0 ≤ c → c < n → g c = h c := by
  constructor
  · intro e c h0 h1
    have e1 : rowL n g = rowL n h := by
      have := congrArg (fun s : Str => s.cps.toList) e
      simpa [rowS] using this
    have := rowL_get (g := g) h0 h1
    rw [e1, rowL_get h0 h1] at this
    exact (Option.some.inj this).symm
  · intro e
    unfold rowS rowL
    congr 2
    refine List.map_congr_left fun c hc => e _ (by omega) ?_
    have := List.mem_range.mp hc
    omega
theorem cp_ext {n : Nat} {f g : Cp} : cpD n f = cpD n g ↔ ∀ r c : Int, 0 ≤ r → r < n → 0 ≤ c → c < n → f r c = g r c := by
  constructor
  · intro e r c h0 h1 h2 h3
    unfold cpD at e
    have e := D.tup.inj e
    have := congrArg (fun l => l[r.toNat]?) e
    simp only [List.getElem?_map] at this
    rw [List.getElem?_range (by omega)] at this
    simp only [Option.map_some, Option.some.injEq, D.str.injEq] at this
    rw [show ((r.toNat : Nat) : Int) = r by omega] at this
    exact rowS_ext.mp this c h2 h3
  · intro e
    unfold cpD
    congr 1
    refine List.map_congr_left fun r hr => ?_
    have := List.mem_range.mp hr
    rw [rowS_ext.mpr fun c h0 h1 => e _ _ (by omega) (by omega) h0 h1]
/-! joining signs -/
theorem join_row {n : Nat} {g : Int → Nat} : Txt.join "" ((List.range n).map fun c => (⟨#[g (c : Nat)]⟩ : Str)) = rowS n g := by
  rw [join_eq]
  have key : ∀ l : List Nat, tl (Str.join "" (l.map fun x => (⟨#[x]⟩ : Str))) = l := fun l => by
    rw [tl_join]
    have e : tl "" = [] := by decide
    rw [e]
    induction l with
    | nil => rfl
    | cons x r ih =>
      cases r with
      | nil => rfl
      | cons y r =>
        show tl (⟨#[x]⟩ : Str) ++ ([] ++ joinL [] (((y :: r).map fun x => (⟨#[x]⟩ : Str)).map tl)) = _
        rw [ih]
        rfl
  have e2 : ((List.range n).map fun c => (⟨#[g (c : Nat)]⟩ : Str)) = (rowL n g).map fun x => (⟨#[x]⟩ : Str) := by
    unfold rowL
    rw [List.map_map]
    rfl
  rw [e2]
  have := key (rowL n g)
  have e3 : ∀ s : Str, s = ⟨(tl s).toArray⟩ := fun s => by cases s; simp [tl]
  rw [e3 (Str.join _ _), this]
  rfl
def sgnF (g : Int → Nat) : D → D
  | .int c => sgn (g c)
  | _ => .non
def rowF (n : Nat) (f : Cp) : D → D
  | .int r => .str (rowS n (f r))
  | _ => .non
theorem rowF_cp {n : Nat} {f : Cp} : D.tup ((rgD 0 n).map (rowF n f)) = cpD n f := by
  unfold rgD cpD
  rw [List.map_map]
  congr 1
  refine List.map_congr_left fun r _ => ?_
  show D.str (rowS n (f (0 + (r : Nat)))) = _
  rw [Int.zero_add]
theorem opJoin_row {n : Nat} {g : Int → Nat} {Q : RV → Prop} (hn : n ≤ 1000000) (q : Q (.val (.str (rowS n g)))) : opJoin (.str "") [.lst ((rgD 0 n).map (sgnF g))] Q := by
  refine ⟨(List.range n).map fun c => (⟨#[g (c : Nat)]⟩ : Str), ?_, ?_, by rw [join_row]; exact q⟩
  · unfold rgD
    rw [List.map_map, List.map_map]
    refine List.map_congr_left fun c _ => ?_
    show sgn (g (0 + (c : Nat))) = _
    rw [Int.zero_add]; rfl
  · have e1 : (List.map (fun x => x.length) ((List.range n).map fun c => (⟨#[g (c : Nat)]⟩ : Str))).sum = n := by
      rw [List.map_map]
      have : ∀ m : Nat, (List.map ((fun x : Str => x.length) ∘ fun c => (⟨#[g (c : Nat)]⟩ : Str)) (List.range m)).sum = m := fun m => by
        induction m with
        | zero => rfl
        | succ m ih => rw [List.range_succ, List.map_append, List.sum_append, ih]; rfl
      exact this n
    rw [e1, List.length_map, List.length_range]
    have : ("" : Str).length = 0 := by decide
    rw [this]
    omega
/-! growing a row sign by sign -/
theorem row_nil (g : Int → Nat) : rowS 0 g = "" := by
  have : ("" : Str) = ⟨#[]⟩ := by decide
  rw [this]; rfl
theorem row_app (k : Nat) (g : Int → Nat) : rowS k g ++ (⟨#[g (k : Nat)]⟩ : Str) = rowS (k + 1) g := by
  show (⟨_ ++ _⟩ : Str) = _
  unfold rowS rowL
  rw [List.range_succ, List.map_append]
  simp
theorem opAdd_row {k : Nat} {g : Int → Nat} {x : Nat} {Q : RV → Prop} (hx : x = g (k : Nat)) (hk : k ≤ 100000) (q : Q (.val (.str (rowS (k + 1) g)))) : opAdd (.str (rowS k g)) (sgn x) Q := by
  refine ⟨?_, ?_⟩
  · rw [rowS_len]; exact sle_of (by show k + 1 ≤ _; omega)
  · subst hx
    rw [row_app]; exact q
def updG (g : Int → Nat) (k : Int) (x : Nat) : Int → Nat := fun c => if c = k then x else g c
def updC (f : Cp) (k : Int) (g : Int → Nat) : Cp := fun r => if r = k then g else f r
theorem opAdd_upd {k : Nat} {g : Int → Nat} {x : Nat} {Q : RV → Prop} (hk : k ≤ 100000) (q : Q (.val (.str (rowS (k + 1) (updG g k x))))) : opAdd (.str (rowS k g)) (sgn x) Q := by
  have e : rowS k g = rowS k (updG g k x) := rowS_ext.mpr fun c h0 h1 => by unfold updG; rw [if_neg (by omega)]
  rw [e]
  exact opAdd_row (by unfold updG; rw [if_pos rfl]) hk q
theorem rows_upd (n k : Nat) (f : Cp) (g : Int → Nat) : ((List.range (k + 1)).map fun r => D.str (rowS n (updC f k g (r : Nat)))) = ((List.range k).map fun r => D.str (rowS n (f (r : Nat)))) ++ [.str (rowS n g)] := by
  rw [List.range_succ, List.map_append]
  congr 1
  · refine List.map_congr_left fun r hr => ?_
    have := List.mem_range.mp hr
    unfold updC; rw [if_neg (by omega)]
  · simp [updC]
def cellAt (ns : List Int) (k : Int) : Int := if k < ns.length then ns.getD k.toNat 0 else 0
theorem cellAt_get {ns : List Int} {k : Int} (h0 : 0 ≤ k) (h1 : k < ns.length) : atI (ns.map D.int) k = some (.int (cellAt ns k)) := by
  refine atI_map (f := D.int) (atI_of (j := k.toNat) (by omega) ?_)
  unfold cellAt
  rw [if_pos h1, List.getD_eq_getElem?_getD, List.getElem?_eq_getElem (by omega)]
  rfl
theorem cellAt_out {ns : List Int} {k : Int} (h1 : ¬ k < ns.length) : cellAt ns k = 0 := by unfold cellAt; rw [if_neg h1]
theorem cm_one {n : Nat} {f : Cp} {a b : Int} {w : Way} : [cpD n f, D.tup [.str w.str, .int a, .int b]] = [cpD n f, dM ⟨w, a, b⟩] := rfl
/-! a carpet moved -/
def movF (n : Nat) (m : Mv) (f : Cp) : Cp := fun r c => f (lR n (inv n m).w (inv n m).d r c) (lC n (inv n m).w (inv n m).r r c)
theorem okC_mov {n : Nat} {m : Mv} {f : Cp} (h : okC f) : okC (movF n m f) := fun _ _ => h _ _
theorem l_stay {n : Nat} {r c : Int} (h0 : 0 ≤ r) (h1 : r < n) (h2 : 0 ≤ c) (h3 : c < n) : lR n stayM.w stayM.d r c = r ∧ lC n stayM.w stayM.r r c = c := by
  constructor
  · show (r + 0) % (n : Int) = r
    rw [Int.add_zero]; exact Int.emod_eq_of_lt h0 h1
  · show (c + 0) % (n : Int) = c
    rw [Int.add_zero]; exact Int.emod_eq_of_lt h2 h3
/-- there and back -/
theorem led_back {n : Nat} (hn : 0 < n) (m : Mv) {r c : Int} (h0 : 0 ≤ r) (h1 : r < n) (h2 : 0 ≤ c) (h3 : c < n) :
    lR n (inv n m).w (inv n m).d (lR n m.w m.d r c) (lC n m.w m.r r c) = r ∧ lC n (inv n m).w (inv n m).r (lR n m.w m.d r c) (lC n m.w m.r r c) = c := by
  have hn' : (0 : Int) < n := by omega
  have e := thn_inv hn' m
  have e1 := lR_thn n m (inv n m) r c
  have e2 := lC_thn n m (inv n m) r c
  rw [e] at e1 e2
  have := l_stay h0 h1 h2 h3
  exact ⟨e1.symm.trans this.1, e2.symm.trans this.2⟩
theorem led_there {n : Nat} (hn : 0 < n) (m : Mv) (ok : m.ok n) {r c : Int} (h0 : 0 ≤ r) (h1 : r < n) (h2 : 0 ≤ c) (h3 : c < n) :
    lR n m.w m.d (lR n (inv n m).w (inv n m).d r c) (lC n (inv n m).w (inv n m).r r c) = r ∧ lC n m.w m.r (lR n (inv n m).w (inv n m).d r c) (lC n (inv n m).w (inv n m).r r c) = c := by
  have hn' : (0 : Int) < n := by omega
  have e := inv_thn hn' m ok
  have e1 := lR_thn n (inv n m) m r c
  have e2 := lC_thn n (inv n m) m r c
  rw [e] at e1 e2
  have := l_stay h0 h1 h2 h3
  exact ⟨e1.symm.trans this.1, e2.symm.trans this.2⟩
theorem mov_led {n : Nat} (hn : 0 < n) (m : Mv) (f : Cp) {r c : Int} (h0 : 0 ≤ r) (h1 : r < n) (h2 : 0 ≤ c) (h3 : c < n) : movF n m f (lR n m.w m.d r c) (lC n m.w m.r r c) = f r c := by
  have := led_back hn m h0 h1 h2 h3
  show f _ _ = _
  rw [this.1, this.2]
theorem mov_thn {n : Nat} (hn : 0 < n) {a b : Mv} (ha : a.ok n) (hb : b.ok n) (f : Cp) : ∀ r c : Int, 0 ≤ r → r < n → 0 ≤ c → c < n → movF n (thn n a b) f r c = movF n b (movF n a f) r c := by
  intro r c h0 h1 h2 h3
  have hn' : (0 : Int) < n := by omega
  have e : inv n (thn n a b) = thn n (inv n b) (inv n a) := by
    refine (inv_uniq hn' (thn_ok hn' _ _) (thn_ok hn' _ _) ?_).symm
    rw [thn_assoc, ← thn_assoc n b, thn_inv hn' b, stay_thn _ (inv_ok hn' a), thn_inv hn' a]
  unfold movF
  rw [e, lR_thn, lC_thn]
theorem mov_stay {n : Nat} (hn : 0 < n) (f : Cp) : ∀ r c : Int, 0 ≤ r → r < n → 0 ≤ c → c < n → movF n stayM f r c = f r c := by
  intro r c h0 h1 h2 h3
  have hn' : (0 : Int) < n := by omega
  have e : inv n stayM = stayM := by
    refine (inv_uniq hn' (stayM_ok hn') (stayM_ok hn') ?_).symm
    exact stay_thn _ (stayM_ok hn')
  unfold movF
  rw [e, (l_stay h0 h1 h2 h3).1, (l_stay h0 h1 h2 h3).2]
theorem mov_congr {n : Nat} (hn : 0 < n) (m : Mv) {f g : Cp} (h : ∀ r c : Int, 0 ≤ r → r < n → 0 ≤ c → c < n → f r c = g r c) : ∀ r c : Int, movF n m f r c = movF n m g r c := fun r c => by
  have hn' : (0 : Int) < n := by omega
  exact h _ _ (lR_ok hn' ..).1 (lR_ok hn' ..).2 (lC_ok hn' ..).1 (lC_ok hn' ..).2
end VN

/-! VD: what comes of movements; dicts of movements -/
namespace VN
open PySem VS PySem.W
inductive Reach (n : Int) (L : List Mv) : Mv → Prop
  | stay : Reach n L stayM
  | step {m x : Mv} : Reach n L m → x ∈ L → Reach n L (thn n m x)
open Classical in
noncomputable def madeL (n : Nat) (L : List Mv) : List Mv := (allM n).filter fun m => decide (Reach n L m)
theorem Reach.ok {n : Nat} (hn : 0 < n) {L : List Mv} {m : Mv} (h : Reach n L m) : m.ok n := by
  cases h with
  | stay => exact stayM_ok (by omega)
  | step _ _ => exact thn_ok (by omega) _ _
theorem mem_madeL {n : Nat} (hn : 0 < n) {L : List Mv} {m : Mv} : m ∈ madeL n L ↔ Reach n L m := by
  classical
  unfold madeL
  rw [List.mem_filter, mem_allM]
  exact ⟨fun h => of_decide_eq_true h.2, fun h => ⟨h.ok hn, decide_eq_true h⟩⟩
theorem madeL_pw (n : Nat) (L : List Mv) : (madeL n L).Pairwise fun a b => leM a b ∧ a ≠ b := (allM_pw n).filter _
theorem madeL_nodup (n : Nat) (L : List Mv) : (madeL n L).Nodup := (madeL_pw n L).imp fun h => h.2
theorem madeL_le (n : Nat) (L : List Mv) : (madeL n L).Pairwise leM := (madeL_pw n L).imp fun h => h.1
/-- all of them, each once, sorted -/
theorem sort_made {n : Nat} (hn : 0 < n) {L F : List Mv} (hd : F.Nodup) (hr : ∀ m ∈ F, Reach n L m) (hs : stayM ∈ F) (hc : ∀ m ∈ F, ∀ x ∈ L, thn n m x ∈ F) : sortM F = madeL n L := by
  refine (sortM_mem hd (madeL_nodup n L) fun m => ?_).trans (sortM_id (madeL_le n L))
  rw [mem_madeL hn]
  refine ⟨hr m, fun h => ?_⟩
  induction h with
  | stay => exact hs
  | step _ hx ih => exact hc _ ih _ hx
theorem reach_trans {n : Nat} (hn : 0 < n) {L : List Mv} {a b : Mv} (ha : Reach n L a) (hb : Reach n L b) : Reach n L (thn n a b) := by
  induction hb with
  | stay => rw [thn_stay a (ha.ok hn)]; exact ha
  | step _ hx ih => rw [← thn_assoc]; exact .step ih hx
theorem reach_congr {n : Int} {L M : List Mv} (h : ∀ x, x ∈ L → x ∈ M) {m : Mv} (r : Reach n L m) : Reach n M m := by
  induction r with
  | stay => exact .stay
  | step _ hx ih => exact .step ih (h _ hx)
theorem powM_reach {n : Nat} (hn : 0 < n) {L : List Mv} {m : Mv} (h : Reach n L m) : ∀ k, Reach n L (powM n m k)
  | 0 => .stay
  | k + 1 => reach_trans hn (powM_reach hn h k) h
/-- each is taken back by one of them -/
theorem inv_reach {n : Nat} (hn : 0 < n) {L : List Mv} {m : Mv} (h : Reach n L m) : Reach n L (inv n m) := by
  have hn' : (0 : Int) < n := by omega
  have e : inv n m = powM n m (4 * n - 1) := by
    refine (inv_uniq hn' (h.ok hn) (powM_ok hn' _ _) ?_).symm
    have h4 := powM_4n hn' m
    rw [Int.toNat_natCast] at h4
    have h1 : powM n m (1 + (4 * n - 1)) = thn n (powM n m 1) (powM n m (4 * n - 1)) := powM_add hn' m 1 _
    rw [show 1 + (4 * n - 1) = 4 * n by omega, h4, powM_1 m (h.ok hn)] at h1
    exact h1.symm
  rw [e]
  exact powM_reach hn h _
/-! dicts whose keys are movements -/
def kvM (v : D) (F : List Mv) : List (D × D) := F.map fun m => (dM m, v)
theorem kvM_get (v : D) (m : Mv) : ∀ F : List Mv, dget (kvM v F) (dM m) = if m ∈ F then some v else none
  | [] => rfl
  | a :: F => by
    show dget ((dM a, v) :: kvM v F) (dM m) = _
    rw [dget_cons, kvM_get v m F]
    by_cases e : a = m
    · subst e; simp
    · have e1 : ¬ dM a = dM m := fun z => e (dM_inj z)
      have e2 : ¬ m = a := fun z => e z.symm
      rw [if_neg e1]
      simp [e2]
theorem kvM_some (v : D) (m : Mv) (F : List Mv) : (dget (kvM v F) (dM m)).isSome = decide (m ∈ F) := by
  rw [kvM_get]
  by_cases h : m ∈ F
  · simp [h]
  · simp [h]
theorem kvM_put {v : D} {m : Mv} {F : List Mv} (h : m ∉ F) : dput (kvM v F) (dM m) v = kvM v (F ++ [m]) := by
  unfold dput
  rw [if_neg]
  · unfold kvM; rw [List.map_append]; rfl
  · intro z
    obtain ⟨p, hp, hq⟩ := List.any_eq_true.mp z
    obtain ⟨a, ha, rfl⟩ := List.mem_map.mp hp
    have := dM_inj (of_decide_eq_true hq)
    exact h (this ▸ ha)
theorem kvM_len (v : D) (F : List Mv) : (kvM v F).length = F.length := List.length_map _
theorem kvM_keys (v : D) (F : List Mv) : (kvM v F).map (·.1) = F.map dM := by
  unfold kvM
  rw [List.map_map]
  rfl
theorem in_kvM {neg : Bool} {v : D} {m : Mv} {F : List Mv} {Q : RV → Prop} (q : Q (.val (.bl (neg ^^ decide (m ∈ F))))) : opIn neg (dM m) (.dic true (kvM v F)) Q := ⟨rfl, rfl, by rw [kvM_some]; exact q⟩
theorem sorted_kvM {v : D} {F : List Mv} {Q : RV → Prop} (q : Q (.fr (.lst ((sortM F).map dM)))) : opSorted [.dic true (kvM v F)] Q :=
  ⟨_, rfl, by rw [kvM_keys]; exact sortOk_M F, by rw [kvM_keys, sort_M]; exact q⟩
theorem nodup_le {α : Type} [BEq α] [LawfulBEq α] : ∀ {F L : List α}, F.Nodup → (∀ m ∈ F, m ∈ L) → F.length ≤ L.length
  | [], _, _, _ => Nat.zero_le _
  | a :: F, L, hd, h => by
    rw [List.nodup_cons] at hd
    have ha := h a (List.mem_cons_self ..)
    have := nodup_le (L := L.erase a) hd.2 fun m hm => (List.mem_erase_of_ne (fun e : m = a => hd.1 (by rw [← e]; exact hm))).mpr (h m (List.mem_cons_of_mem _ hm))
    rw [List.length_erase_of_mem ha] at this
    have := List.length_pos_of_mem ha
    rw [List.length_cons]
    omega
/-- at most all of them -/
theorem bound_M {n : Nat} {F : List Mv} (hd : F.Nodup) (ok : ∀ m ∈ F, m.ok n) : F.length ≤ 8 * (n * n) := by
  rw [← allM_len n]
  exact nodup_le hd fun m hm => mem_allM.mpr (ok m hm)
theorem ne_nil_M {W : List Mv} : (D.lst (W.map dM)).un = (D.lst []).un ↔ W = [] := by
  show D.lst (W.map dM) = D.lst [] ↔ _
  rw [D.lst.injEq, List.map_eq_nil_iff]
theorem mapM_inj {L M : List Mv} : L.map dM = M.map dM ↔ L = M := ⟨fun h => map_inj (fun a b => dM_inj) h, fun h => by rw [h]⟩
end VN

/-! VX: going abroad from some, step by step; dicts by injective keys; places in order, circles -/
namespace VN
open PySem VS PySem.W
section Close
variable {α β : Type} [DecidableEq α]
/-- one more looked at: F found, W waiting -/
def gro (st : α → β → α) (one : α) (p : List α × List α) (m : β) : List α × List α := if st one m ∈ p.1 then p else (p.1 ++ [st one m], p.2 ++ [st one m])
theorem gro_in {st : α → β → α} {one : α} {F W : List α} {m : β} (h : st one m ∈ F) : gro st one (F, W) m = (F, W) := if_pos h
theorem gro_out {st : α → β → α} {one : α} {F W : List α} {m : β} (h : st one m ∉ F) : gro st one (F, W) m = (F ++ [st one m], W ++ [st one m]) := if_neg h
inductive Rch (st : α → β → α) (L : List β) (S : List α) : α → Prop
  | start {a : α} : a ∈ S → Rch st L S a
  | step {a : α} {x : β} : Rch st L S a → x ∈ L → Rch st L S (st a x)
structure CInv (st : α → β → α) (L : List β) (S U F W : List α) (r : Nat) : Prop where
  nd : F.Nodup
  re : ∀ m ∈ F, Rch st L S m
  s0 : ∀ m ∈ S, m ∈ F
  ww : ∀ m ∈ W, m ∈ F
  cl : ∀ m ∈ F, m ∉ W → ∀ x ∈ L, st m x ∈ F
  ub : ∀ m ∈ F, m ∈ U
  wl : W.length ≤ F.length
  ms : r + 2 * F.length = 2 * U.length + W.length
theorem nodup_le' {F L : List α} (h : F.Nodup) (k : ∀ m ∈ F, m ∈ L) : F.length ≤ L.length := nodup_le h k
/-- while one is looked at -/
structure GInv (st : α → β → α) (L : List β) (S U : List α) (one : α) (r : Nat) (pre : List β) (F W : List α) : Prop where
  nd : F.Nodup
  re : ∀ m ∈ F, Rch st L S m
  s0 : ∀ m ∈ S, m ∈ F
  o1 : one ∈ F
  ww : ∀ m ∈ W, m ∈ F
  cl : ∀ m ∈ F, m ∉ W → m = one ∨ ∀ x ∈ L, st m x ∈ F
  pr : ∀ x ∈ pre, st one x ∈ F
  ub : ∀ m ∈ F, m ∈ U
  wl : W.length ≤ F.length
  ms : r + 2 * F.length ≥ 2 * U.length + W.length + 1
theorem GInv.next {st : α → β → α} {L : List β} {S U F W : List α} {one : α} {r : Nat} {pre : List β} {x : β} (hU : ∀ m, Rch st L S m → m ∈ U) (h : GInv st L S U one r pre F W) (hx : x ∈ L) : GInv st L S U one r (pre ++ [x]) (gro st one (F, W) x).1 (gro st one (F, W) x).2 := by
  unfold gro
  by_cases hin : st one x ∈ F
  · rw [if_pos hin]
    refine ⟨h.nd, h.re, h.s0, h.o1, h.ww, h.cl, fun y hy => ?_, h.ub, h.wl, h.ms⟩
    rcases List.mem_append.mp hy with hy | hy
    · exact h.pr y hy
    · rw [List.mem_singleton.mp hy]; exact hin
  · rw [if_neg hin]
    have hr : Rch st L S (st one x) := .step (h.re one h.o1) hx
    refine ⟨?_, ?_, ?_, ?_, ?_, ?_, ?_, ?_, by have := h.wl; simp only [List.length_append, List.length_cons, List.length_nil]; omega, ?_⟩
    · rw [List.nodup_append]
      exact ⟨h.nd, by simp, fun a ha b hb e => hin (by rw [List.mem_singleton] at hb; rw [← hb, ← e]; exact ha)⟩
    · intro m hm
      rcases List.mem_append.mp hm with hm | hm
      · exact h.re m hm
      · rw [List.mem_singleton.mp hm]; exact hr
    · intro m hm; exact List.mem_append_left _ (h.s0 m hm)
    · exact List.mem_append_left _ h.o1
    · intro m hm
      rcases List.mem_append.mp hm with hm | hm
      · exact List.mem_append_left _ (h.ww m hm)
      · exact List.mem_append_right _ hm
    · intro m hm hmw
      rcases List.mem_append.mp hm with hm | hm
      · rcases h.cl m hm (fun z => hmw (List.mem_append_left _ z)) with e | e
        · exact .inl e
        · exact .inr fun y hy => List.mem_append_left _ (e y hy)
      · exact absurd (List.mem_append_right _ hm) hmw
    · intro y hy
      rcases List.mem_append.mp hy with hy | hy
      · exact List.mem_append_left _ (h.pr y hy)
      · rw [List.mem_singleton.mp hy]; simp
    · intro m hm
      rcases List.mem_append.mp hm with hm | hm
      · exact h.ub m hm
      · rw [List.mem_singleton.mp hm]; exact hU _ hr
    · have := h.ms
      simp only [List.length_append, List.length_cons, List.length_nil]
      omega
/-- one is taken from what waits -/
theorem CInv.take {st : α → β → α} {L : List β} {S U F W W' : List α} {one : α} {r : Nat} (h : CInv st L S U F W r) (hw : ∀ m, m ∈ W ↔ m = one ∨ m ∈ W') (hl : W.length = W'.length + 1) : GInv st L S U one r [] F W' := by
  refine ⟨h.nd, h.re, h.s0, h.ww _ ((hw _).mpr (.inl rfl)), fun m hm => h.ww _ ((hw _).mpr (.inr hm)), fun m hm hmw => ?_, by simp, h.ub, by have := h.wl; omega, ?_⟩
  · by_cases e : m = one
    · exact .inl e
    · exact .inr (h.cl m hm (fun z => ((hw m).mp z).elim e hmw))
  · have := h.ms
    omega
theorem GInv.back {st : α → β → α} {L : List β} {S U F W : List α} {one : α} {r : Nat} (h : GInv st L S U one r L F W) : CInv st L S U F W (2 * U.length + W.length - 2 * F.length) ∧ 2 * U.length + W.length - 2 * F.length < r := by
  have hb := nodup_le' h.nd h.ub
  have hm := h.ms
  refine ⟨⟨h.nd, h.re, h.s0, h.ww, fun m hm hmw => ?_, h.ub, h.wl, by omega⟩, by omega⟩
  rcases h.cl m hm hmw with e | e
  · subst e; exact h.pr
  · exact e
theorem CInv.init {st : α → β → α} {L : List β} {B U : List α} {a : α} (hB : B.Nodup) (ha : a ∉ B) (hc : ∀ m ∈ B, ∀ x ∈ L, st m x ∈ B) (hU : ∀ m ∈ B ++ [a], m ∈ U) : CInv st L (B ++ [a]) U (B ++ [a]) [a] (2 * U.length - 2 * B.length - 1) := by
  have hn : (B ++ [a]).Nodup := by
    rw [List.nodup_append]
    exact ⟨hB, by simp, fun x hx y hy e => ha (by rw [List.mem_singleton] at hy; rw [← hy, ← e]; exact hx)⟩
  have hb := nodup_le' hn hU
  simp only [List.length_append, List.length_cons, List.length_nil] at hb
  refine ⟨hn, fun m hm => .start hm, fun m hm => hm, by simp, fun m hm hmw x hx => ?_, hU, by simp, ?_⟩
  · rcases List.mem_append.mp hm with hm | hm
    · exact List.mem_append_left _ (hc m hm x hx)
    · exact absurd hm hmw
  · simp only [List.length_append, List.length_cons, List.length_nil]
    omega
theorem CInv.done {st : α → β → α} {L : List β} {S U F : List α} {r : Nat} (h : CInv st L S U F [] r) : ∀ m, m ∈ F ↔ Rch st L S m := by
  intro m
  refine ⟨h.re m, fun q => ?_⟩
  induction q with
  | start hs => exact h.s0 _ hs
  | step _ hx ih => exact h.cl _ ih (by simp) _ hx
theorem CInv.len {st : α → β → α} {L : List β} {S U F W : List α} {r : Nat} (h : CInv st L S U F W r) : F.length ≤ U.length := nodup_le' h.nd h.ub
theorem GInv.len {st : α → β → α} {L pre : List β} {S U F W : List α} {one : α} {r : Nat} (h : GInv st L S U one r pre F W) : F.length ≤ U.length := nodup_le' h.nd h.ub
theorem Rch.mono {st : α → β → α} {L M : List β} {S T : List α} (hL : ∀ x ∈ L, x ∈ M) (hS : ∀ a ∈ S, a ∈ T) {m : α} (h : Rch st L S m) : Rch st M T m := by
  induction h with
  | start hs => exact .start (hS _ hs)
  | step _ hx ih => exact .step ih (hL _ hx)
theorem Rch.trans {st : α → β → α} {L : List β} {S : List α} {a b : α} (ha : Rch st L S a) (hb : Rch st L [a] b) : Rch st L S b := by
  induction hb with
  | start hs => rw [List.mem_singleton.mp hs]; exact ha
  | step _ hx ih => exact .step ih hx
/-- from B, which is closed, and a: in B, or from a -/
theorem Rch.split {st : α → β → α} {L : List β} {B : List α} {a : α} (hc : ∀ m ∈ B, ∀ x ∈ L, st m x ∈ B) {m : α} (h : Rch st L (B ++ [a]) m) : m ∈ B ∨ Rch st L [a] m := by
  induction h with
  | start hs =>
    rcases List.mem_append.mp hs with hs | hs
    · exact .inl hs
    · exact .inr (.start hs)
  | step _ hx ih =>
    rcases ih with ih | ih
    · exact .inl (hc _ ih _ hx)
    · exact .inr (.step ih hx)
end Close
/-! dicts by injective keys -/
section
variable {α : Type} [DecidableEq α] {k : α → D}
def kvA (k v : α → D) (F : List α) : List (D × D) := F.map fun a => (k a, v a)
theorem kvA_get (hk : ∀ a b, k a = k b → a = b) (v : α → D) (m : α) : ∀ F : List α, dget (kvA k v F) (k m) = if m ∈ F then some (v m) else none
  | [] => rfl
  | a :: F => by
    show dget ((k a, v a) :: kvA k v F) (k m) = _
    rw [dget_cons, kvA_get hk v m F]
    by_cases e : a = m
    · subst e; simp
    · have e1 : ¬ k a = k m := fun z => e (hk _ _ z)
      have e2 : ¬ m = a := fun z => e z.symm
      rw [if_neg e1]
      simp [e2]
theorem kvA_some (hk : ∀ a b, k a = k b → a = b) (v : α → D) (m : α) (F : List α) : (dget (kvA k v F) (k m)).isSome = decide (m ∈ F) := by
  rw [kvA_get hk]
  by_cases h : m ∈ F
  · simp [h]
  · simp [h]
theorem kvA_put (hk : ∀ a b, k a = k b → a = b) {v : α → D} {m : α} {F : List α} (h : m ∉ F) : dput (kvA k v F) (k m) (v m) = kvA k v (F ++ [m]) := by
  unfold dput
  rw [if_neg]
  · unfold kvA; rw [List.map_append]; rfl
  · intro z
    obtain ⟨p, hp, hq⟩ := List.any_eq_true.mp z
    obtain ⟨a, ha, rfl⟩ := List.mem_map.mp hp
    have := hk _ _ (of_decide_eq_true hq)
    exact h (this ▸ ha)
theorem kvA_len (v : α → D) (F : List α) : (kvA k v F).length = F.length := List.length_map _
theorem kvA_keys (v : α → D) (F : List α) : (kvA k v F).map (·.1) = F.map k := by
  unfold kvA
  rw [List.map_map]
  rfl
theorem kvA_isSome (hk : ∀ a b, k a = k b → a = b) (v : α → D) (m : α) (F : List α) : (dget (kvA k v F) (k m)).isSome = true ↔ m ∈ F := by
  rw [kvA_some hk, decide_eq_true_iff]
theorem kvA_in (hk : ∀ a b, k a = k b → a = b) {v : α → D} {m : α} {F : List α} (h : m ∈ F) : dget (kvA k v F) (k m) = some (v m) := by
  rw [kvA_get hk, if_pos h]
/-- put again: nothing new -/
theorem kvA_put_in (hk : ∀ a b, k a = k b → a = b) {v : α → D} {m : α} {F : List α} (h : m ∈ F) : dput (kvA k v F) (k m) (v m) = kvA k v F := by
  unfold dput
  rw [if_pos]
  · unfold kvA
    rw [List.map_map]
    refine List.map_congr_left fun a ha => ?_
    show (if k a = k m then (k a, v m) else (k a, v a)) = (k a, v a)
    split
    · rename_i e; rw [hk _ _ e]
    · rfl
  · rw [List.any_eq_true]
    exact ⟨(k m, v m), List.mem_map.mpr ⟨m, h, rfl⟩, decide_eq_true rfl⟩
end
/-! places -/
abbrev Pl := Int × Int
abbrev dP (p : Pl) : D := dPl p.1 p.2
theorem dP_inj (a b : Pl) (h : dP a = dP b) : a = b := Prod.ext (dPl_inj h).1 (dPl_inj h).2
def leP (a b : Pl) : Prop := a.1 < b.1 ∨ (a.1 = b.1 ∧ a.2 ≤ b.2)
instance (a b : Pl) : Decidable (leP a b) := by unfold leP; infer_instance
theorem alike_P (a b : Pl) : alike (dP a).toPy (dP b).toPy = true := by simp [D.toPy, D.toPyL, alike, alikeAll]
theorem eqv_int (x y : Int) : PyData.eqv (.int x) (.int y) = decide (x = y) := by
  simp only [PyData.eqv]
  by_cases h : x = y
  · simp [h]
  · simp [h]
theorem leD_P (a b : Pl) : leD (dP a) (dP b) = decide (leP a b) := by
  show (!dataLt (.tuple [.int b.1, .int b.2]) (.tuple [.int a.1, .int a.2])) = _
  rw [dataLt_tuple, dataLt_cons (by simp [alike]), dataLt_cons (by simp [alike]), dataLt_int, dataLt_int]
  have e0 : PyProof.Rows.lexLt PyProof.Rows.itemOrd (keyToksAll []) (keyToksAll []) = false := PyProof.Rows.lex_irrefl _
  rw [e0, eqv_int, eqv_int]
  obtain ⟨a1, a2⟩ := a
  obtain ⟨b1, b2⟩ := b
  unfold leP
  simp only
  by_cases h : b1 = a1
  · subst h
    simp only [decide_true, if_true, Int.lt_irrefl, false_or, true_and]
    by_cases h3 : b2 = a2
    · subst h3; simp
    · simp only [h3, decide_false, Bool.false_eq_true, if_false]
      by_cases h4 : b2 < a2
      · simp [h4]
      · simp [h4]; omega
  · have h' : ¬ a1 = b1 := fun e => h e.symm
    simp only [h, h', decide_false, Bool.false_eq_true, if_false, false_and, or_false]
    by_cases h4 : b1 < a1
    · simp [h4]; omega
    · simp [h4]; omega
theorem ok_P {n : Nat} {p : Pl} : D.okD (n + 1) (dP p) = true := rfl
theorem okL_P {n : Nat} {L : List Pl} : D.okL (n + 1) (L.map dP) = true := okL_map fun _ => ok_P
theorem sortOk_P (L : List Pl) : sortOk (L.map dP) := ⟨okL_P, fun d hd e he => by
  obtain ⟨a, _, rfl⟩ := List.mem_map.mp hd
  obtain ⟨b, _, rfl⟩ := List.mem_map.mp he
  exact alike_P a b, .inl fun d hd => by
  rw [List.map_map] at hd
  obtain ⟨a, _, rfl⟩ := List.mem_map.mp hd
  exact ⟨_, _, rfl⟩⟩
theorem leP_anti {a b : Pl} (h1 : leP a b) (h2 : leP b a) : a = b := by
  unfold leP at h1 h2
  exact Prod.ext (by omega) (by omega)
theorem leP_trans {a b c : Pl} (h1 : leP a b) (h2 : leP b c) : leP a c := by
  unfold leP at h1 h2 ⊢
  omega
theorem leP_total (a b : Pl) : leP a b ∨ leP b a := by
  unfold leP
  omega
def sortP (L : List Pl) : List Pl := L.mergeSort fun a b => decide (leP a b)
theorem sort_P (L : List Pl) : (L.map dP).mergeSort leD = (sortP L).map dP := (sort_maps dP (fun a _ b _ => (leD_P a b).symm)).symm
theorem sortP_pw (L : List Pl) : (sortP L).Pairwise leP := by
  have := List.pairwise_mergeSort (le := fun a b : Pl => decide (leP a b)) (fun a b c h1 h2 => decide_eq_true (leP_trans (of_decide_eq_true h1) (of_decide_eq_true h2))) (fun a b => by rcases leP_total a b with h | h <;> simp [h]) L
  exact this.imp fun h => of_decide_eq_true h
theorem sortP_perm (L : List Pl) : (sortP L).Perm L := List.mergeSort_perm ..
theorem sortP_eq {L M : List Pl} (hp : M.Perm L) (ho : M.Pairwise leP) : sortP L = M := ((sortP_perm L).trans hp.symm).eq_of_pairwise (fun a b _ _ h1 h2 => leP_anti h1 h2) (sortP_pw L) ho
def allP (n : Nat) : List Pl := (List.range n).flatMap fun r : Nat => (List.range n).map fun c : Nat => (((r : Nat) : Int), ((c : Nat) : Int))
theorem mem_allP {n : Nat} {p : Pl} : p ∈ allP n ↔ 0 ≤ p.1 ∧ p.1 < n ∧ 0 ≤ p.2 ∧ p.2 < n := by
  unfold allP
  rw [List.mem_flatMap]
  constructor
  · rintro ⟨r, hr, hp⟩
    obtain ⟨c, hc, rfl⟩ := List.mem_map.mp hp
    rw [List.mem_range] at hr hc
    exact ⟨by show (0 : Int) ≤ r; omega, by show (r : Int) < n; omega, by show (0 : Int) ≤ c; omega, by show (c : Int) < n; omega⟩
  · rintro ⟨h0, h1, h2, h3⟩
    refine ⟨p.1.toNat, List.mem_range.mpr (by omega), List.mem_map.mpr ⟨p.2.toNat, List.mem_range.mpr (by omega), (?_ : ((p.1.toNat : Int), (p.2.toNat : Int)) = p)⟩⟩
    exact Prod.ext (by simp only; omega) (by simp only; omega)
theorem allP_pw (n : Nat) : (allP n).Pairwise fun a b => leP a b ∧ a ≠ b := by
  unfold allP
  rw [List.pairwise_flatMap]
  constructor
  · intro r _
    rw [List.pairwise_map]
    refine List.pairwise_lt_range.imp fun {a b} h => ⟨.inr ⟨rfl, by simp only; omega⟩, fun e => ?_⟩
    have := congrArg Prod.snd e
    simp only at this
    omega
  · refine List.pairwise_lt_range.imp fun {a b} h x hx y hy => ?_
    obtain ⟨c, _, rfl⟩ := List.mem_map.mp hx
    obtain ⟨d, _, rfl⟩ := List.mem_map.mp hy
    refine ⟨.inl (by simp only; omega), fun e => ?_⟩
    have := congrArg Prod.fst e
    simp only at this
    omega
theorem allP_nodup (n : Nat) : (allP n).Nodup := (allP_pw n).imp fun h => h.2
theorem allP_le (n : Nat) : (allP n).Pairwise leP := (allP_pw n).imp fun h => h.1
theorem allP_len (n : Nat) : (allP n).length = n * n := by
  unfold allP
  rw [List.length_flatMap]
  simp only [List.length_map, List.length_range]
  induction n with
  | zero => rfl
  | succ m _ =>
    generalize m + 1 = k
    have : ∀ l : List Nat, (l.map fun _ => k).sum = l.length * k := by
      intro l
      induction l with
      | nil => simp
      | cons a l ih => rw [List.map_cons, List.sum_cons, ih, List.length_cons, Nat.succ_mul]; omega
    rw [this, List.length_range]
open Classical in
/-- sorted, of those with a property -/
theorem sortP_filter {n : Nat} {F : List Pl} {p : Pl → Prop} (hd : F.Nodup) (h : ∀ m, m ∈ F ↔ m ∈ allP n ∧ p m) : sortP F = (allP n).filter fun m => decide (p m) := by
  refine sortP_eq ?_ ((allP_le n).filter _)
  refine (List.perm_ext_iff_of_nodup ((allP_nodup n).filter _) hd).mpr fun m => ?_
  rw [List.mem_filter, h]
  simp
theorem in_kvP {neg : Bool} {v : Pl → D} {r c : Int} {F : List Pl} {Q : RV → Prop} (q : Q (.val (.bl (neg ^^ decide ((r, c) ∈ F))))) : opIn neg (dPl r c) (.dic true (kvA dP v F)) Q := ⟨rfl, rfl, by
  have e : (dget (kvA dP v F) (dPl r c)).isSome = decide ((r, c) ∈ F) := by
    rw [Bool.eq_iff_iff, decide_eq_true_iff]
    exact kvA_isSome dP_inj v (r, c) F
  rw [e]; exact q⟩
theorem sorted_kvP {v : Pl → D} {F : List Pl} {Q : RV → Prop} (q : Q (.fr (.lst ((sortP F).map dP)))) : opSorted [.dic true (kvA dP v F)] Q :=
  ⟨_, rfl, by rw [kvA_keys]; exact sortOk_P F, by rw [kvA_keys, sort_P]; exact q⟩
theorem sorted_P {F : List Pl} {Q : RV → Prop} (q : Q (.fr (.lst ((sortP F).map dP)))) : opSorted [.lst (F.map dP)] Q :=
  ⟨_, rfl, sortOk_P F, by rw [sort_P]; exact q⟩
theorem ne_nil_P {W : List Pl} : (D.lst (W.map dP)).un = (D.lst []).un ↔ W = [] := by
  show D.lst (W.map dP) = D.lst [] ↔ _
  rw [D.lst.injEq, List.map_eq_nil_iff]
/-! where movements lead places; circles -/
def ledP (n : Int) (p : Pl) (m : Mv) : Pl := (lR n m.w m.d p.1 p.2, lC n m.w m.r p.1 p.2)
abbrev RchP (n : Nat) (L : List Mv) (p q : Pl) : Prop := Rch (ledP n) L [p] q
theorem ledP_in {n : Nat} (hn : 0 < n) (p : Pl) (m : Mv) : ledP n p m ∈ allP n := by
  have hn' : (0 : Int) < n := by omega
  exact mem_allP.mpr ⟨(lR_ok hn' ..).1, (lR_ok hn' ..).2, (lC_ok hn' ..).1, (lC_ok hn' ..).2⟩
theorem rchP_in {n : Nat} (hn : 0 < n) {L : List Mv} {p q : Pl} (hp : p ∈ allP n) (h : RchP n L p q) : q ∈ allP n := by
  cases h with
  | start hs => rw [List.mem_singleton.mp hs]; exact hp
  | step _ _ => exact ledP_in hn _ _
theorem ledP_thn (n : Int) (p : Pl) (a b : Mv) : ledP n p (thn n a b) = ledP n (ledP n p a) b := Prod.ext (lR_thn n a b p.1 p.2) (lC_thn n a b p.1 p.2)
theorem ledP_stay {n : Nat} {p : Pl} (hp : p ∈ allP n) : ledP n p stayM = p := by
  obtain ⟨h0, h1, h2, h3⟩ := mem_allP.mp hp
  have := l_stay h0 h1 h2 h3
  exact Prod.ext this.1 this.2
theorem ledP_pow {n : Nat} (hn : 0 < n) {L : List Mv} {m : Mv} (hm : m ∈ L) {p q : Pl} (hq : q ∈ allP n) (h : RchP n L p q) : ∀ k, RchP n L p (ledP n q (powM n m k))
  | 0 => by
    show RchP n L p (ledP n q stayM)
    rw [ledP_stay hq]
    exact h
  | k + 1 => by
    show RchP n L p (ledP n q (thn n (powM n m k) m))
    rw [ledP_thn]
    exact .step (ledP_pow hn hm hq h k) hm
theorem rchP_refl {n : Nat} {L : List Mv} (p : Pl) : RchP n L p p := .start (by simp)
theorem rchP_trans {n : Nat} {L : List Mv} {p q s : Pl} (h : RchP n L p q) (k : RchP n L q s) : RchP n L p s := Rch.trans h k
/-- led on by m, back again -/
theorem rchP_back {n : Nat} (hn : 0 < n) {L : List Mv} {m : Mv} (hm : m ∈ L) (ok : m.ok n) {p : Pl} (hp : p ∈ allP n) : RchP n L (ledP n p m) p := by
  have hn' : (0 : Int) < n := by omega
  have h := ledP_pow hn hm (ledP_in hn p m) (rchP_refl (L := L) (ledP n p m)) (4 * n - 1)
  rw [← ledP_thn] at h
  have e : thn n m (powM n m (4 * n - 1)) = stayM := by
    have h4 := powM_4n hn' m
    rw [Int.toNat_natCast] at h4
    have h1 : powM n m (1 + (4 * n - 1)) = thn n (powM n m 1) (powM n m (4 * n - 1)) := powM_add hn' m 1 _
    rw [show 1 + (4 * n - 1) = 4 * n by omega, h4, powM_1 m ok] at h1
    exact h1.symm
  rw [e, ledP_stay hp] at h
  exact h
theorem rchP_symm {n : Nat} (hn : 0 < n) {L : List Mv} (ok : ∀ m ∈ L, m.ok n) {p q : Pl} (hp : p ∈ allP n) (h : RchP n L p q) : RchP n L q p := by
  induction h with
  | start hs => rw [List.mem_singleton.mp hs]; exact .start (by simp)
  | step h hx ih => exact rchP_trans (rchP_back hn hx (ok _ hx) (rchP_in hn hp h)) ih
open Classical in
/-- the circle of a place -/
noncomputable def circP (n : Nat) (L : List Mv) (p : Pl) : List Pl := (allP n).filter fun q => decide (RchP n L p q)
theorem mem_circP {n : Nat} {L : List Mv} {p q : Pl} : q ∈ circP n L p ↔ q ∈ allP n ∧ RchP n L p q := by
  classical
  unfold circP
  rw [List.mem_filter]
  simp
theorem circP_le (n : Nat) (L : List Mv) (p : Pl) : (circP n L p).Pairwise leP := (allP_le n).filter _
theorem circP_nodup (n : Nat) (L : List Mv) (p : Pl) : (circP n L p).Nodup := (allP_nodup n).filter _
theorem circP_self {n : Nat} {L : List Mv} {p : Pl} (hp : p ∈ allP n) : p ∈ circP n L p := mem_circP.mpr ⟨hp, rchP_refl p⟩
theorem circP_eq {n : Nat} (hn : 0 < n) {L : List Mv} (ok : ∀ m ∈ L, m.ok n) {p q : Pl} (hp : p ∈ allP n) (h : RchP n L p q) : circP n L q = circP n L p := by
  classical
  unfold circP
  refine List.filter_congr fun s hs => ?_
  have : RchP n L q s ↔ RchP n L p s := ⟨fun k => rchP_trans h k, fun k => rchP_trans (rchP_symm hn ok hp h) k⟩
  simp [this]
/-- the least place of a circle -/
noncomputable def rootP (n : Nat) (L : List Mv) (p : Pl) : Pl := ((circP n L p).head?).getD p
theorem rootP_mem {n : Nat} {L : List Mv} {p : Pl} (hp : p ∈ allP n) : rootP n L p ∈ circP n L p := by
  unfold rootP
  have := circP_self (L := L) hp
  cases e : circP n L p with
  | nil => rw [e] at this; cases this
  | cons a l => simp
theorem rootP_le {n : Nat} {L : List Mv} {p q : Pl} (hq : q ∈ circP n L p) : leP (rootP n L p) q := by
  have hw := circP_le n L p
  unfold rootP
  cases e : circP n L p with
  | nil => rw [e] at hq; cases hq
  | cons a l =>
    rw [e] at hq hw
    rw [List.pairwise_cons] at hw
    rcases List.mem_cons.mp hq with h | h
    · subst h; exact .inr ⟨rfl, Int.le_refl _⟩
    · exact hw.1 q h
theorem rootP_eq {n : Nat} (hn : 0 < n) {L : List Mv} (ok : ∀ m ∈ L, m.ok n) {p q : Pl} (hp : p ∈ allP n) (h : RchP n L p q) : rootP n L q = rootP n L p := by
  have hq := rchP_in hn hp h
  refine leP_anti (rootP_le ?_) (rootP_le ?_)
  · rw [circP_eq hn ok hp h]; exact rootP_mem hp
  · rw [← circP_eq hn ok hp h]; exact rootP_mem hq
theorem rootP_rch {n : Nat} {L : List Mv} {p : Pl} (hp : p ∈ allP n) : RchP n L p (rootP n L p) := (mem_circP.mp (rootP_mem hp)).2
theorem rootP_in {n : Nat} {L : List Mv} {p : Pl} (hp : p ∈ allP n) : rootP n L p ∈ allP n := (mem_circP.mp (rootP_mem hp)).1
/-- alike roots: one circle -/
theorem rootP_iff {n : Nat} (hn : 0 < n) {L : List Mv} (ok : ∀ m ∈ L, m.ok n) {p q : Pl} (hp : p ∈ allP n) (hq : q ∈ allP n) : rootP n L p = rootP n L q ↔ RchP n L p q := by
  refine ⟨fun h => ?_, fun h => (rootP_eq hn ok hp h).symm⟩
  have h1 := rootP_rch (L := L) hp
  rw [h] at h1
  exact rchP_trans h1 (rchP_symm hn ok hq (rootP_rch hq))
theorem rootP_root {n : Nat} (hn : 0 < n) {L : List Mv} (ok : ∀ m ∈ L, m.ok n) {p : Pl} (hp : p ∈ allP n) : rootP n L (rootP n L p) = rootP n L p := rootP_eq hn ok hp (rootP_rch hp)
/-- sorted: all that is found from p -/
theorem sort_circ {n : Nat} (hn : 0 < n) {L : List Mv} {p : Pl} (hp : p ∈ allP n) {F : List Pl} (hd : F.Nodup) (h : ∀ m, m ∈ F ↔ RchP n L p m) : sortP F = circP n L p := by
  classical
  refine sortP_filter hd fun m => ?_
  rw [h]
  exact ⟨fun q => ⟨rchP_in hn hp q, q⟩, fun q => q.2⟩
/-- the roots, in order; the circles -/
noncomputable def rootsL (n : Nat) (L : List Mv) : List Pl := (allP n).filter fun p => decide (rootP n L p = p)
noncomputable def circlesL (n : Nat) (L : List Mv) : List (List Pl) := (rootsL n L).map (circP n L)
theorem mem_rootsL {n : Nat} {L : List Mv} {p : Pl} : p ∈ rootsL n L ↔ p ∈ allP n ∧ rootP n L p = p := by
  unfold rootsL
  rw [List.mem_filter]
  simp
abbrev dLP (l : List Pl) : D := .lst (l.map dP)
end VN

/-! VY: what leaves a carpet; first unlike places; the drawn things of stages 5 to 7 -/
namespace VN
open PySem VS PySem.W
def lvB (n : Nat) (m : Mv) (f : Cp) : Bool := decide ((cpD n (movF n m f)).un = (cpD n f).un)
theorem lvB_iff {n : Nat} (hn : 0 < n) {m : Mv} (ok : m.ok n) (f : Cp) : lvB n m f = true ↔ ∀ r c : Int, 0 ≤ r → r < n → 0 ≤ c → c < n → f (lR n m.w m.d r c) (lC n m.w m.r r c) = f r c := by
  have hn' : (0 : Int) < n := by omega
  unfold lvB
  rw [decide_eq_true_iff]
  show cpD n (movF n m f) = cpD n f ↔ _
  rw [cp_ext]
  constructor
  · intro h r c h0 h1 h2 h3
    rw [← h _ _ (lR_ok hn' ..).1 (lR_ok hn' ..).2 (lC_ok hn' ..).1 (lC_ok hn' ..).2]
    exact mov_led hn m f h0 h1 h2 h3
  · intro h r c h0 h1 h2 h3
    have e := led_there hn m ok h0 h1 h2 h3
    have := h _ _ (lR_ok hn' (inv n m).w (inv n m).d r c).1 (lR_ok hn' (inv n m).w (inv n m).d r c).2 (lC_ok hn' (inv n m).w (inv n m).r r c).1 (lC_ok hn' (inv n m).w (inv n m).r r c).2
    rw [e.1, e.2] at this
    exact this.symm
/-- the first place at which f and g are unlike -/
def FirstU (n : Nat) (f g : Cp) : Option Pl → Prop
  | none => ∀ r c : Int, 0 ≤ r → r < n → 0 ≤ c → c < n → f r c = g r c
  | some p => p ∈ allP n ∧ f p.1 p.2 ≠ g p.1 p.2 ∧ ∀ r c : Int, 0 ≤ r → 0 ≤ c → c < n → (r < p.1 ∨ (r = p.1 ∧ c < p.2)) → f r c = g r c
theorem FirstU.uniq {n : Nat} {f g : Cp} {a b : Option Pl} (h : FirstU n f g a) (k : FirstU n f g b) : a = b := by
  cases a with
  | none =>
    cases b with
    | none => rfl
    | some p =>
      obtain ⟨h1, h2, _⟩ := k
      obtain ⟨a1, a2, a3, a4⟩ := mem_allP.mp h1
      exact absurd (h _ _ a1 a2 a3 a4) h2
  | some q =>
    obtain ⟨q1, q2, q3⟩ := h
    obtain ⟨b1, b2, b3, b4⟩ := mem_allP.mp q1
    cases b with
    | none => exact absurd (k _ _ b1 b2 b3 b4) q2
    | some p =>
      obtain ⟨h1, h2, h3⟩ := k
      obtain ⟨a1, a2, a3, a4⟩ := mem_allP.mp h1
      have c1 : ¬ (q.1 < p.1 ∨ (q.1 = p.1 ∧ q.2 < p.2)) := fun z => q2 (h3 q.1 q.2 b1 b3 b4 z)
      have c2 : ¬ (p.1 < q.1 ∨ (p.1 = q.1 ∧ p.2 < q.2)) := fun z => h2 (q3 p.1 p.2 a1 a3 a4 z)
      congr 1
      exact Prod.ext (by omega) (by omega)
def optP : Option Pl → D
  | none => .non
  | some p => dP p
def mixA (c k : Int) : Int := (c % 1000003 + k * k + 1) * 48271 % 2147483647
def mvA (n x : Int) : Mv := ⟨wayAt (x % 8), x / 8 % n, x / 64 % n⟩
abbrev disp8 (v0 v1 v2 v3 v4 v5 v6 v7 : D) : List (D × D) := mergeD [] [(.str "stay", v0), (.str "turn", v1), (.str "half", v2), (.str "back", v3), (.str "side", v4), (.str "flip", v5), (.str "cross", v6), (.str "other", v7)]
/-- small letters -/
def okA (f : Cp) : Prop := ∀ r c, 97 ≤ f r c ∧ f r c < 123
theorem okA_okC {f : Cp} (h : okA f) : okC f := fun r c => by have := h r c; omega
def okS (s : Str) : Prop := 0 < s.length ∧ s.length ≤ 26 ∧ ∀ x ∈ s.cps.toList, 97 ≤ x ∧ x < 123
/-- rows ahead of i, and of row i the first j -/
def preP (n i j : Nat) : List Pl := ((List.range i).flatMap fun r : Nat => (List.range n).map fun c : Nat => (((r : Nat) : Int), ((c : Nat) : Int))) ++ (List.range j).map fun c : Nat => (((i : Nat) : Int), ((c : Nat) : Int))
theorem preP_succ (n i j : Nat) : preP n i (j + 1) = preP n i j ++ [((i : Int), (j : Int))] := by
  unfold preP
  rw [List.range_succ, List.map_append, ← List.append_assoc]
  rfl
theorem preP_row (n i : Nat) : preP n (i + 1) 0 = preP n i n := by
  unfold preP
  rw [List.range_succ, List.flatMap_append, List.flatMap_cons, List.flatMap_nil, List.append_nil, List.range_zero, List.map_nil, List.append_nil]
theorem preP_all (n : Nat) : preP n n 0 = allP n := by
  unfold preP allP
  rw [List.range_zero, List.map_nil, List.append_nil]
theorem preP_len (n i j : Nat) : (preP n i j).length = i * n + j := by
  unfold preP
  rw [List.length_append, List.length_map, List.length_range]
  congr 1
  induction i with
  | zero => simp
  | succ i ih => rw [List.range_succ, List.flatMap_append, List.length_append, ih, Nat.succ_mul]; simp
/-- strictly ahead -/
def ltP (a b : Pl) : Prop := a.1 < b.1 ∨ (a.1 = b.1 ∧ a.2 < b.2)
theorem leP_lt {a b : Pl} : leP a b ↔ a = b ∨ ltP a b := by
  unfold leP ltP
  constructor
  · intro h
    by_cases e : a = b
    · exact .inl e
    · refine .inr ?_
      have : ¬ (a.1 = b.1 ∧ a.2 = b.2) := fun z => e (Prod.ext z.1 z.2)
      omega
  · rintro (rfl | h)
    · exact .inr ⟨rfl, Int.le_refl _⟩
    · omega
theorem ltP_irrefl (a : Pl) : ¬ ltP a a := by unfold ltP; omega
theorem sgn_inj {a b : Nat} (h : sgn a = sgn b) : a = b := by
  have h := D.str.inj h
  injection h with h
  simpa using h
theorem sgn_inj' {a b : Nat} (h : (⟨#[a]⟩ : Str) = ⟨#[b]⟩) : a = b := by
  injection h with h
  simpa using h
theorem mem_at {n i j : Nat} (hi : i < n) (hj : j < n) : ((0 + (i : Int), 0 + (j : Int)) : Pl) ∈ allP n := mem_allP.mpr ⟨by show (0 : Int) ≤ 0 + (i : Int); omega, by show 0 + (i : Int) < n; omega, by show (0 : Int) ≤ 0 + (j : Int); omega, by show 0 + (j : Int) < n; omega⟩
theorem take_snoc {α : Type} {L : List α} {k : Nat} {x : α} (h : L[k]? = some x) : L.take (k + 1) = L.take k ++ [x] := by
  rw [List.take_add_one, h]
  rfl
/-- all places whose root is ahead of (i, j) -/
structure RInv (n : Nat) (L : List Mv) (i j : Nat) (F : List Pl) : Prop where
  nd : F.Nodup
  mem : ∀ p, p ∈ F ↔ p ∈ allP n ∧ ltP (rootP n L p) ((i : Int), (j : Int))
theorem RInv.zero {n : Nat} {L : List Mv} : RInv n L 0 0 [] := ⟨by simp, fun p => by
  simp only [List.not_mem_nil, false_iff, not_and]
  intro hp
  have := mem_allP.mp (rootP_in (L := L) hp)
  unfold ltP
  simp only
  omega⟩
theorem RInv.all {n : Nat} {L : List Mv} {F : List Pl} (h : RInv n L n 0 F) (hn : 0 < n) : ∀ p, p ∈ F ↔ p ∈ allP n := fun p => by
  rw [h.mem]
  refine ⟨fun z => z.1, fun z => ⟨z, ?_⟩⟩
  have := mem_allP.mp (rootP_in (L := L) z)
  exact .inl (by simp only; omega)
theorem RInv.row {n i : Nat} {L : List Mv} {F : List Pl} (h : RInv n L i n F) : RInv n L (i + 1) 0 F := ⟨h.nd, fun p => by
  rw [h.mem]
  refine and_congr_right fun z => ?_
  have := mem_allP.mp (rootP_in (L := L) z)
  unfold ltP
  simp only
  omega⟩
theorem RInv.len {n i j : Nat} {L : List Mv} {F : List Pl} (h : RInv n L i j F) : F.length ≤ n * n := by
  rw [← allP_len n]
  exact nodup_le' h.nd fun m hm => ((h.mem m).mp hm).1
theorem RInv.closed {n i j : Nat} (hn : 0 < n) {L : List Mv} (ok : ∀ x ∈ L, x.ok n) {F : List Pl} (h : RInv n L i j F) : ∀ m ∈ F, ∀ x ∈ L, ledP n m x ∈ F := fun m hm x hx => by
  obtain ⟨h1, h2⟩ := (h.mem m).mp hm
  refine (h.mem _).mpr ⟨ledP_in hn m x, ?_⟩
  rw [rootP_eq hn ok h1 (.step (rchP_refl m) hx)]
  exact h2
theorem RInv.root {n i j : Nat} {L : List Mv} {F : List Pl} (h : RInv n L i j F) {p : Pl} (hp : p ∈ allP n) (h1 : p.1 = i) (h2 : p.2 = j) (hF : p ∉ F) : rootP n L p = p := by
  rcases leP_lt.mp (rootP_le (circP_self (L := L) hp)) with e | e
  · exact e
  · refine absurd ((h.mem p).mpr ⟨hp, ?_⟩) hF
    unfold ltP at e ⊢
    simp only
    omega
theorem RInv.start {n i j : Nat} (hn : 0 < n) {L : List Mv} (ok : ∀ x ∈ L, x.ok n) {F : List Pl} (h : RInv n L i j F) {p : Pl} (hp : p ∈ allP n) (h1 : p.1 = i) (h2 : p.2 = j) (hF : p ∉ F) : rootP n L p = p ∧ CInv (ledP n) L (F ++ [p]) (allP n) (F ++ [p]) [p] (2 * (allP n).length - 2 * F.length - 1) :=
  ⟨h.root hp h1 h2 hF, CInv.init h.nd hF (h.closed hn ok) fun m hm => by
    rcases List.mem_append.mp hm with hm | hm
    · exact ((h.mem m).mp hm).1
    · rw [List.mem_singleton.mp hm]; exact hp⟩
theorem RInv.rch_in {n i j : Nat} (hn : 0 < n) {L : List Mv} {F : List Pl} (h : RInv n L i j F) {p m : Pl} (hp : p ∈ allP n) (hm : Rch (ledP n) L (F ++ [p]) m) : m ∈ allP n := by
  cases hm with
  | start hs =>
    rcases List.mem_append.mp hs with hs | hs
    · exact ((h.mem _).mp hs).1
    · rw [List.mem_singleton.mp hs]; exact hp
  | step _ _ => exact ledP_in hn _ _
theorem RInv.next {n i j : Nat} (hn : 0 < n) {L : List Mv} (ok : ∀ x ∈ L, x.ok n) {F F' : List Pl} {r : Nat} (h : RInv n L i j F) {p : Pl} (hp : p ∈ allP n) (h1 : p.1 = i) (h2 : p.2 = j) (hr : rootP n L p = p) (hC : CInv (ledP n) L (F ++ [p]) (allP n) F' [] r) : RInv n L i (j + 1) F' := by
  refine ⟨hC.nd, fun q => ?_⟩
  rw [hC.done]
  constructor
  · intro z
    have hq := h.rch_in hn hp z
    refine ⟨hq, ?_⟩
    rcases Rch.split (h.closed hn ok) z with e | e
    · have := ((h.mem q).mp e).2
      unfold ltP at this ⊢
      simp only at this ⊢
      omega
    · rw [rootP_eq hn ok hp e, hr]
      unfold ltP
      simp only
      omega
  · rintro ⟨hq, hlt⟩
    by_cases e : rootP n L q = p
    · have : RchP n L p q := (rootP_iff hn ok hp hq).mp (by rw [hr, e])
      exact Rch.mono (fun _ h => h) (fun a ha => List.mem_append_right _ ha) this
    · refine .start (List.mem_append_left _ ((h.mem q).mpr ⟨hq, ?_⟩))
      have : ¬ ((rootP n L q).1 = p.1 ∧ (rootP n L q).2 = p.2) := fun z => e (Prod.ext z.1 z.2)
      unfold ltP at hlt ⊢
      simp only at hlt ⊢
      omega
theorem RInv.skip {n i j : Nat} (hn : 0 < n) {L : List Mv} (ok : ∀ x ∈ L, x.ok n) {F : List Pl} (h : RInv n L i j F) {p : Pl} (h1 : p.1 = i) (h2 : p.2 = j) (hF : p ∈ F) : RInv n L i (j + 1) F := by
  refine ⟨h.nd, fun q => ?_⟩
  rw [h.mem]
  refine and_congr_right fun hq => ?_
  obtain ⟨hp, hlt⟩ := (h.mem p).mp hF
  have : ¬ ((rootP n L q).1 = p.1 ∧ (rootP n L q).2 = p.2) := fun z => by
    have e : rootP n L q = p := Prod.ext z.1 z.2
    rw [← e, rootP_root hn ok hq, e] at hlt
    unfold ltP at hlt
    simp only at hlt
    omega
  unfold ltP
  simp only
  omega
end VN

/-! VZ: all that leave; the few -/
namespace VN
open PySem VS PySem.W
def unM : D → Mv
  | .tup [.str w, .int a, .int b] => ⟨wayS w, a, b⟩
  | _ => stayM
def lvL (n : Nat) (f : Cp) : List Mv := (allM n).filter fun m => lvB n m f
theorem mem_mapM {m : Mv} {L : List Mv} : dM m ∈ L.map dM ↔ m ∈ L := by
  rw [List.mem_map]
  exact ⟨fun ⟨a, ha, e⟩ => dM_inj e ▸ ha, fun h => ⟨m, h, rfl⟩⟩
theorem in_listM {neg : Bool} {m : Mv} {L : List Mv} {Q : RV → Prop} (q : Q (.val (.bl (neg ^^ decide (m ∈ L))))) : opIn neg (dM m) (.lst (L.map dM)) Q := by
  refine ⟨ok_M, okL_M, ?_⟩
  have e : decide (dM m ∈ L.map dM) = decide (m ∈ L) := by
    rw [Bool.eq_iff_iff, decide_eq_true_iff, decide_eq_true_iff]
    exact mem_mapM
  rw [e]; exact q
/-! the few -/
open Classical in
noncomputable def fewS (n : Nat) (few : List Mv) (m : Mv) : List Mv := if m ∈ madeL n few then few else few ++ [m]
noncomputable def fewL (n : Nat) (E : List Mv) : List Mv := E.foldl (fewS n) []
theorem made_nil {n : Nat} (hn : 0 < n) : madeL n [] = [stayM] := by
  have h : ∀ m, m ∈ madeL n [] ↔ m = stayM := fun m => by
    rw [mem_madeL hn]
    refine ⟨fun h => ?_, fun h => h ▸ .stay⟩
    cases h with
    | stay => rfl
    | step _ hx => simp at hx
  have hd := madeL_nodup n []
  have h1 := (h stayM).mpr rfl
  cases e : madeL n [] with
  | nil => rw [e] at h1; simp at h1
  | cons a l =>
    rw [e] at h hd
    have ha := (h a).mp (List.mem_cons_self ..)
    subst ha
    cases l with
    | nil => rfl
    | cons b l =>
      have hb := (h b).mp (by simp)
      subst hb
      simp at hd
theorem madeL_len {n : Nat} (L : List Mv) : (madeL n L).length ≤ 8 * (n * n) := by
  rw [← allM_len n]
  unfold madeL
  exact List.length_filter_le _ _
end VN

/-! VSU: is of truths, xs[::-1], clear of a new list, enumerate -/
namespace VS
open PySem PySem.Spec L2
section
variable {c : Cfg} {pos : Pos} {a b : Expr} {ta tb : ET}
def opIsB (neg : Bool) : D → D → (RV → Prop) → Prop
  | .bl x, .bl y, Q => Q (.val (.bl (neg ^^ decide (x = y))))
  | _, _, _ => False
/-! xs[::-1] of a list -/
def eRev (t : ET) : ET := fun env Q Xq => t env (fun rv e1 => ∃ ds, rd e1 rv = some (.lst ds) ∧ Q (.fr (.lst ds.reverse)) e1) Xq
/-! f(..).clear(), of a new list -/
def eClrF (t : ET) : ET := fun env Q Xq => t env (fun rv e1 => ∃ ds, rv = .fr (.lst ds) ∧ Q (.val .non) e1) Xq
/-! enumerate of a list that is lent or shared -/
def enuD : Nat → List D → List D
  | _, [] => []
  | k, d :: ds => .tup [.int (k : Nat), d] :: enuD (k + 1) ds
theorem enuD_get : ∀ {ds : List D} {k i : Nat} {d : D}, (enuD k ds)[i]? = some d → ∃ x, ds[i]? = some x ∧ d = .tup [.int ((k + i : Nat) : Int), x]
  | [], _, _, _, e => by simp [enuD] at e
  | x :: ds, k, 0, d, e => by
    simp [enuD] at e
    exact ⟨x, rfl, by rw [← e]; rfl⟩
  | x :: ds, k, i + 1, d, e => by
    obtain ⟨y, h1, h2⟩ := enuD_get (ds := ds) (k := k + 1) (i := i) (d := d) (by simpa [enuD] using e)
    exact ⟨y, by simpa using h1, by rw [h2, show k + 1 + i = k + (i + 1) by omega]⟩
theorem enuD_len : ∀ (k : Nat) (ds : List D), (enuD k ds).length = ds.length
  | _, [] => rfl
  | k, _ :: ds => by rw [enuD, List.length_cons, enuD_len, List.length_cons]
def enuR (env : Env) : RV → Option (List D)
  | .val (.lst ds) => some ds
  | .slot i => match env[i]? with
    | some (.bor (.lst ds)) => some ds
    | some (.val (.lst ds)) => some ds
    | _ => none
  | _ => none
def iEnu (ta : AT) : IT := fun env Q Xq => ta env (fun rs e1 => ∃ r ds, rs = [r] ∧ enuR e1 r = some ds ∧ Q (enuD 0 ds) none e1) Xq
end
end VS

/-! VB: bending ways, mirrors, stands -/
namespace VN
open PySem VS PySem.W
def bend : Way → Bool | .side => true | .flip => true | .cross => true | .other => true | _ => false
/-- a wide bending one -/
structure Wd (n : Int) (m : Mv) : Prop where
  b : bend m.w = true
  d0 : 0 ≤ m.d
  d1 : m.d < 2 * n
  r0 : 0 ≤ m.r
  r1 : m.r < 2 * n
def mirB (n : Int) (m : Mv) : Bool := match m.w with
  | .side => decide (m.d = 0)
  | .flip => decide (m.r = 0)
  | .cross => decide ((m.d + m.r) % (2 * n) = 0)
  | _ => decide (m.d = m.r)
def mirC (w : Way) (low far : Int) : Prop := gR w low far + low = 0 ∧ gC w low far + far = 0
instance (w : Way) (low far : Int) : Decidable (mirC w low far) := by unfold mirC; infer_instance
def standM (n : Int) (m : Mv) : Option Mv := if (m.d - gR m.w m.d m.r) % 2 = 1 ∨ (m.r - gC m.w m.d m.r) % 2 = 1 then none else some ⟨m.w, (m.d - gR m.w m.d m.r) / 2 % n, (m.r - gC m.w m.d m.r) / 2 % n⟩
def optM : Option Mv → D
  | none => .non
  | some m => dM m
theorem dM_side {d r : Int} : dM ⟨.side, d, r⟩ = .tup [.str "side", .int d, .int r] := rfl
theorem dM_flip {d r : Int} : dM ⟨.flip, d, r⟩ = .tup [.str "flip", .int d, .int r] := rfl
theorem dM_cross {d r : Int} : dM ⟨.cross, d, r⟩ = .tup [.str "cross", .int d, .int r] := rfl
theorem dM_other {d r : Int} : dM ⟨.other, d, r⟩ = .tup [.str "other", .int d, .int r] := rfl
end VN

/-! VK: letters, all movements by ways, kin -/
namespace VN
open PySem VS PySem.W
def mixB (c k : Int) : Int := (c % 2147483647 + 17) * (48271 + 2 * k * k) % 2147483629
theorem kk_bound {k : Int} (h0 : 0 ≤ k) (h1 : k ≤ 1000) : 0 ≤ 2 * k * k ∧ 2 * k * k ≤ 2000000 := by
  have h2 : 0 ≤ k * k := Int.mul_nonneg h0 h0
  have h3 : k * k ≤ 1000 * 1000 := Int.mul_le_mul h1 h1 h0 (by decide)
  rw [Int.mul_assoc]
  omega
def allW (n : Nat) : List Mv := allOf ways n
theorem allW_len (n : Nat) : (allW n).length = 8 * (n * n) := allOf_len ways n
theorem mem_ways'' (w : Way) : w ∈ ways := by cases w <;> decide
theorem mem_allW {n : Nat} {m : Mv} : m ∈ allW n ↔ m.ok n := by rw [allW, mem_allOf]; simp [mem_ways'']
theorem mvB_at {n : Nat} (hn : 0 < n) (x : Int) : ∃ m : Mv, m.ok n ∧ L2.atI ((allW n).map dM) (x % (8 * n * n)) = some (dM m) := by
  have hp : 0 < n * n := Nat.mul_pos hn hn
  have e : (8 : Int) * n * n = ((8 * (n * n) : Nat) : Int) := by rw [Int.mul_assoc]; push_cast; rfl
  obtain ⟨m, hm, hm2⟩ := atI_get (xs := allW n) (i := x % (8 * n * n)) (by rw [e]; exact Int.emod_nonneg _ (by omega)) (by rw [e, allW_len]; exact Int.emod_lt_of_pos _ (by omega))
  exact ⟨m, mem_allW.mp (List.mem_of_getElem? hm2), atI_map (f := dM) hm⟩
theorem idx_mvB {n : Nat} {x : Int} {Q : RV → Prop} (hn : 0 < n) (q : ∀ m : Mv, m.ok n → Q (.val (dM m))) : opIdx (.lst ((allW n).map dM)) (.int (x % (8 * n * n))) Q := by
  obtain ⟨m, h1, h2⟩ := mvB_at hn x
  exact ⟨_, h2, q m h1⟩
theorem dM_stay' {d r : Int} : dM ⟨.stay, d, r⟩ = .tup [.str "stay", .int d, .int r] := rfl
theorem dM_turn' {d r : Int} : dM ⟨.turn, d, r⟩ = .tup [.str "turn", .int d, .int r] := rfl
theorem dM_half' {d r : Int} : dM ⟨.half, d, r⟩ = .tup [.str "half", .int d, .int r] := rfl
theorem dM_back' {d r : Int} : dM ⟨.back, d, r⟩ = .tup [.str "back", .int d, .int r] := rfl
/-! letters -/
def abcL (i : Int) : Nat := 97 + i.toNat
theorem abc_cps : (("abcdefghijklmnopqrstuvwxyz" : Str).cps.toList) = (List.range 26).map (97 + ·) := by decide +kernel
theorem idx_abcD {i : Int} {Q : RV → Prop} (h0 : 0 ≤ i) (h1 : i < 26) (q : Q (.val (sgn (abcL i)))) : opIdx (.str "abcdefghijklmnopqrstuvwxyz") (.int i) Q := by
  refine ⟨by decide +kernel, abcL i, ?_, q⟩
  rw [abc_cps]
  refine atI_of (j := i.toNat) (by omega) ?_
  rw [List.getElem?_map, List.getElem?_range (by omega)]
  rfl
theorem abcL_ok {i : Int} (h0 : 0 ≤ i) (h1 : i < 26) : 97 ≤ abcL i ∧ abcL i < 123 := by unfold abcL; omega
/-- one to twenty-six letters -/
structure okLs (ls : List Nat) : Prop where
  pos : 0 < ls.length
  le : ls.length ≤ 26
  ok : ∀ x ∈ ls, 97 ≤ x ∧ x < 123
theorem idx_ls {ls : List Nat} {i : Int} {Q : RV → Prop} (h : okLs ls) (h0 : 0 ≤ i) (h1 : i < ls.length) (q : ∀ x : Nat, 97 ≤ x → x < 123 → Q (.val (sgn x))) : opIdx (.lst (ls.map sgn)) (.int i) Q := by
  obtain ⟨x, hx, hx2⟩ := atI_get (xs := ls) h0 h1
  have o := h.ok x (List.mem_of_getElem? hx2)
  exact ⟨_, atI_map (f := sgn) hx, q x o.1 o.2⟩
theorem len_ls {ls : List Nat} {Q : RV → Prop} (h : okLs ls) (q : Q (.val (.int ls.length))) : opLen [.lst (ls.map sgn)] Q := by
  show Q (.val (.int ((ls.map sgn).length : Nat)))
  rw [List.length_map]
  exact q
theorem idx_ints {ms : List Int} {i : Int} {Q : RV → Prop} (h0 : 0 ≤ i) (h1 : i < ms.length) (q : ∀ z : Int, Q (.val (.int z))) : opIdx (.lst (ms.map D.int)) (.int i) Q := by
  obtain ⟨x, hx, hx2⟩ := atI_get (xs := ms) h0 h1
  exact ⟨_, atI_map (f := D.int) hx, q x⟩
theorem len_ints {ms : List Int} {Q : RV → Prop} (q : Q (.val (.int ms.length))) : opLen [.lst (ms.map D.int)] Q := by
  show Q (.val (.int ((ms.map D.int).length : Nat)))
  rw [List.length_map]
  exact q
theorem min2_any {i j : Int} {Q : RV → Prop} (hi : 0 ≤ i) (hj : 0 ≤ j) (q : ∀ z : Int, 0 ≤ z → z ≤ i → Q (.val (.int z))) : opMin2 [.int i, .int j] Q := by
  refine q _ ?_ ?_
  · split <;> omega
  · split <;> omega
def ltF (h : Int → Nat) : D → D
  | .int c => sgn (h c)
  | _ => .non
def ltL (h : Int → Nat) (n : Nat) : List Nat := (List.range n).map fun i => h (i : Nat)
theorem ltF_map {h : Int → Nat} {n : Nat} : (rgD 0 n).map (ltF h) = (ltL h n).map sgn := by
  unfold rgD ltL
  rw [List.map_map, List.map_map]
  refine List.map_congr_left fun r _ => ?_
  show sgn (h (0 + (r : Nat))) = _
  rw [Int.zero_add]; rfl
theorem ltL_ok {h : Int → Nat} {n : Nat} (h0 : 0 < n) (h1 : n ≤ 26) (hh : ∀ i, 97 ≤ h i ∧ h i < 123) : okLs (ltL h n) := by
  refine ⟨?_, ?_, ?_⟩
  · simp [ltL]; exact h0
  · simp [ltL]; exact h1
  · intro x hx
    obtain ⟨i, _, rfl⟩ := List.mem_map.mp hx
    exact hh _
/-! kin -/
def KinU (n : Nat) (f g : Cp) : Option Mv → Prop
  | some m => m.ok n ∧ cpD n (movF n m f) = cpD n g
  | none => ∀ m : Mv, m.ok n → cpD n (movF n m f) ≠ cpD n g
def kinP (n : Nat) (f g : Cp) (d : D) : Bool := decide ((cpD n (movF n (unM d) f)).un = (cpD n g).un)
/-! a knot changed -/
def setC (f : Cp) (r c : Int) (x : Nat) : Cp := updC f r (updG (f r) c x)
theorem okA_upd {f : Cp} {k : Int} {g : Int → Nat} (h : okA f) (hg : ∀ c, 97 ≤ g c ∧ g c < 123) : okA (updC f k g) := fun r c => by
  unfold updC
  split
  · exact hg c
  · exact h r c
theorem okAg_upd {g : Int → Nat} {k : Int} {x : Nat} (h : ∀ c, 97 ≤ g c ∧ g c < 123) (h0 : 97 ≤ x) (h1 : x < 123) : ∀ c, 97 ≤ updG g k x c ∧ updG g k x c < 123 := fun c => by
  unfold updG
  split
  · exact ⟨h0, h1⟩
  · exact h c
theorem cutD_map {α β : Type} (h : α → β) (l : List α) (lo hi : Option Int) : cutD (l.map h) lo hi = (cutD l lo hi).map h := by
  unfold cutD
  rw [List.length_map, List.map_take, List.map_drop]
theorem okA_97 : okA fun _ _ => 97 := fun _ _ => ⟨Nat.le_refl 97, (by decide : 97 < 123)⟩
theorem okAg_97 : ∀ c : Int, 97 ≤ (fun _ => 97 : Int → Nat) c ∧ (fun _ => 97 : Int → Nat) c < 123 := fun _ => ⟨Nat.le_refl 97, (by decide : 97 < 123)⟩
theorem idx_hyp {xs : List D} {i : Int} {x : D} {Q : RV → Prop} (h : L2.atI xs i = some x) (q : Q (.val x)) : opIdx (.lst xs) (.int i) Q := ⟨_, h, q⟩
end VN

/-! VL: cells: some rows and a slide -/
namespace VN
open PySem VS PySem.W
/-- m rows of n knots -/
def rcD (m n : Nat) (f : Cp) : D := .tup ((List.range m).map fun r => .str (rowS n (f (r : Nat))))
theorem ok_rc {m n k : Nat} {f : Cp} (h : okC f) : D.okD (k + 1) (rcD m n f) = true := ok_tup (okL_map fun r => ok_row (h _))
theorem divmod_k {i j : Int} {Q : RV → Prop} (h1 : 0 < j) (h2 : j < 1073741824) (q : Q (.val (.tup [.int (i / j), .int (i % j)]))) : opDivmod [.int i, .int j] Q := ⟨⟨h1, h2⟩, q⟩
/-- a cell laid without end -/
def slF (m n s : Int) (f : Cp) : Cp := fun r c => f (r % m) ((c - s * (r / m)) % n)
end VN

/-! VP: shoves; least cells -/
namespace VN
open PySem VS PySem.W
def enF (n : Int) (f : Cp) : Cp := fun r c => f (r % n) (c % n)
def Sh (n : Nat) (f : Cp) (a b : Int) : Prop := ∀ r c : Int, enF n f (r + a) (c + b) = enF n f r c
def shM (n : Nat) (a b : Int) : Mv := ⟨.stay, a % n, b % n⟩
def shB (n : Nat) (f : Cp) (a b : Int) : Bool := lvB n (shM n a b) f
theorem shM_ok {n : Nat} (hn : 0 < n) (a b : Int) : (shM n a b).ok n := ⟨Int.emod_nonneg _ (by omega), Int.emod_lt_of_pos _ (by omega), Int.emod_nonneg _ (by omega), Int.emod_lt_of_pos _ (by omega)⟩
theorem shB_iff {n : Nat} (hn : 0 < n) (f : Cp) (a b : Int) : shB n f a b = true ↔ Sh n f a b := by
  unfold shB
  rw [lvB_iff hn (shM_ok hn a b) f]
  have e1 : ∀ y x : Int, lR n (shM n a b).w (shM n a b).d y x = (y + a) % n := fun y x => by
    show (y + a % n) % (n : Int) = _
    rw [Int.add_emod_emod]
  have e2 : ∀ y x : Int, lC n (shM n a b).w (shM n a b).r y x = (x + b) % n := fun y x => by
    show (x + b % n) % (n : Int) = _
    rw [Int.add_emod_emod]
  constructor
  · intro h r c
    have := h (r % n) (c % n) (Int.emod_nonneg _ (by omega)) (Int.emod_lt_of_pos _ (by omega)) (Int.emod_nonneg _ (by omega)) (Int.emod_lt_of_pos _ (by omega))
    rw [e1, e2, Int.emod_add_emod, Int.emod_add_emod] at this
    exact this
  · intro h r c h0 h1 h2 h3
    have := h r c
    unfold enF at this
    rw [e1, e2, this, Int.emod_eq_of_lt h0 h1, Int.emod_eq_of_lt h2 h3]
theorem Sh.zero {n : Nat} {f : Cp} : Sh n f 0 0 := fun r c => by rw [Int.add_zero, Int.add_zero]
theorem Sh.add {n : Nat} {f : Cp} {a b a' b' : Int} (h : Sh n f a b) (h' : Sh n f a' b') : Sh n f (a + a') (b + b') := fun r c => by
  rw [← Int.add_assoc, ← Int.add_assoc, h' (r + a) (c + b), h r c]
theorem Sh.neg {n : Nat} {f : Cp} {a b : Int} (h : Sh n f a b) : Sh n f (-a) (-b) := fun r c => by
  have := h (r + -a) (c + -b)
  rw [Int.neg_add_cancel_right, Int.neg_add_cancel_right] at this
  exact this.symm
theorem Sh.nmul {n : Nat} {f : Cp} {a b : Int} (h : Sh n f a b) : ∀ k : Nat, Sh n f ((k : Int) * a) ((k : Int) * b)
  | 0 => by simpa using Sh.zero
  | k + 1 => by
    have := (h.nmul k).add h
    rw [show ((k + 1 : Nat) : Int) = (k : Int) + 1 by omega, Int.add_mul, Int.add_mul, Int.one_mul, Int.one_mul]
    exact this
theorem Sh.mul {n : Nat} {f : Cp} {a b : Int} (h : Sh n f a b) (k : Int) : Sh n f (k * a) (k * b) := by
  obtain ⟨j, rfl | rfl⟩ := Int.eq_nat_or_neg k
  · exact h.nmul j
  · have := (h.nmul j).neg
    rw [Int.neg_mul, Int.neg_mul]
    exact this
theorem Sh.sub {n : Nat} {f : Cp} {a b a' b' : Int} (h : Sh n f a b) (h' : Sh n f a' b') : Sh n f (a - a') (b - b') := by
  rw [Int.sub_eq_add_neg, Int.sub_eq_add_neg]
  exact h.add h'.neg
theorem Sh.n0 {n : Nat} {f : Cp} : Sh n f n 0 := fun r c => by
  unfold enF
  rw [Int.add_zero, Int.add_emod_right]
theorem Sh.on {n : Nat} {f : Cp} : Sh n f 0 n := fun r c => by
  unfold enF
  rw [Int.add_zero, Int.add_emod_right]
/-- the least cell: many rows, a length, a slide -/
structure Lst (n : Nat) (f : Cp) (m l : Nat) (s : Int) : Prop where
  l0 : 0 < l
  ln : l ≤ n
  lS : Sh n f 0 l
  lM : ∀ d : Int, 0 < d → d < l → ¬ Sh n f 0 d
  m0 : 0 < m
  mn : m ≤ n
  s0 : 0 ≤ s
  sl : s < l
  mS : Sh n f m s
  mM : ∀ a : Int, 0 < a → a < m → ∀ b : Int, 0 ≤ b → b < l → ¬ Sh n f a b
theorem Lst.ldvd {n : Nat} {f : Cp} {m l : Nat} {s : Int} (h : Lst n f m l s) {b : Int} (hb : Sh n f 0 b) : b % l = 0 := by
  have l0 := h.l0
  have e : Sh n f 0 (b % l) := by
    have := hb.sub (h.lS.mul (b / l))
    rw [Int.mul_zero, Int.sub_zero, Int.mul_comm] at this
    rw [Int.emod_def]
    exact this
  have h0 := Int.emod_nonneg b (show (l : Int) ≠ 0 by omega)
  have h1 := Int.emod_lt_of_pos b (show 0 < (l : Int) by omega)
  by_cases hz : b % l = 0
  · exact hz
  · exact absurd e (h.lM _ (by omega) h1)
theorem Lst.red {n : Nat} {f : Cp} {m l : Nat} {s : Int} (h : Lst n f m l s) {a b : Int} (hb : Sh n f a b) : Sh n f a (b % l) := by
  have := hb.sub (h.lS.mul (b / l))
  rw [Int.mul_zero, Int.sub_zero, Int.mul_comm] at this
  rw [Int.emod_def]
  exact this
theorem Lst.mdvd {n : Nat} {f : Cp} {m l : Nat} {s : Int} (h : Lst n f m l s) {a b : Int} (hb : Sh n f a b) : a % m = 0 := by
  have l0 := h.l0
  have m0 := h.m0
  have e := h.red (hb.sub (h.mS.mul (a / m)))
  have h0 := Int.emod_nonneg a (show (m : Int) ≠ 0 by omega)
  have h1 := Int.emod_lt_of_pos a (show 0 < (m : Int) by omega)
  rw [Int.mul_comm, ← Int.emod_def] at e
  by_cases hz : a % m = 0
  · exact hz
  · exact absurd e (h.mM _ (by omega) h1 _ (Int.emod_nonneg _ (by omega)) (Int.emod_lt_of_pos _ (by omega)))
theorem emod_diff {l a b : Int} (hl : 0 < l) (h : (a - b) % l = 0) (ha : 0 ≤ a) (ha1 : a < l) (hb : 0 ≤ b) (hb1 : b < l) : a = b := by
  have e1 : a % l = b % l := (Int.emod_eq_emod_iff_emod_sub_eq_zero).mpr h
  rw [Int.emod_eq_of_lt ha ha1, Int.emod_eq_of_lt hb hb1] at e1
  exact e1
theorem Lst.slide {n : Nat} {f : Cp} {m l : Nat} {s : Int} (h : Lst n f m l s) {a b b' : Int} (h1 : Sh n f a b) (h2 : Sh n f a b') : (b - b') % l = 0 := by
  have := h1.sub h2
  rw [Int.sub_self] at this
  exact h.ldvd this
theorem Lst.slide_eq {n : Nat} {f : Cp} {m l : Nat} {s : Int} (h : Lst n f m l s) {b : Int} (h1 : Sh n f m b) (hb : 0 ≤ b) (hb1 : b < l) : b = s :=
  emod_diff (by have := h.l0; omega) (h.slide h1 h.mS) hb hb1 h.s0 h.sl
theorem Lst.dn {n : Nat} {f : Cp} {m l : Nat} {s : Int} (h : Lst n f m l s) : (n : Int) % m = 0 ∧ (n : Int) % l = 0 := ⟨h.mdvd Sh.n0, h.ldvd Sh.on⟩
/-! how many shoves -/
def resP (l b : Int) : D → Bool
  | .int c => decide (c % l = b)
  | _ => false
theorem count_res : ∀ n ∈ List.range 9, ∀ l ∈ List.range 9, 0 < l → n % l = 0 → ∀ b ∈ List.range 9, b < l → ((rgD 0 n).filter (resP l b)).length * l = n := by decide +kernel
def shP (n : Nat) (f : Cp) (a : Int) : D → Bool
  | .int c => shB n f a c
  | _ => false
theorem Lst.count {n : Nat} {f : Cp} {m l : Nat} {s : Int} (hn : 0 < n) (h8 : n ≤ 8) (h : Lst n f m l s) (a : Int) : ((rgD 0 n).filter (shP n f a)).length * l = if a % m = 0 then n else 0 := by
  have l0 := h.l0
  have ln := h.ln
  have m0 := h.m0
  have hd := h.dn.2
  split
  · rename_i hz
    have e0 : Sh n f a (s * (a / m) % l) := by
      have := h.red (h.mS.mul (a / m))
      rw [Int.mul_comm, Int.mul_ediv_cancel' (Int.dvd_of_emod_eq_zero hz), Int.mul_comm] at this
      exact this
    generalize hb : s * (a / m) % (l : Int) = b at e0
    have hb0 : 0 ≤ b := by rw [← hb]; exact Int.emod_nonneg _ (by omega)
    have hb1 : b < l := by rw [← hb]; exact Int.emod_lt_of_pos _ (by omega)
    have := count_res n (List.mem_range.mpr (by omega)) l (List.mem_range.mpr (by omega)) l0 (by omega) b.toNat (List.mem_range.mpr (by omega)) (by omega)
    have hf : (rgD 0 n).filter (shP n f a) = (rgD 0 n).filter (resP l b.toNat) := by
     refine List.filter_congr fun d hd => ?_
     obtain ⟨c, hc, rfl⟩ := mem_rg hd
     show shB n f a (0 + (c : Int)) = decide ((0 + (c : Int)) % (l : Int) = ((b.toNat : Nat) : Int))
     rw [Bool.eq_iff_iff, shB_iff hn, decide_eq_true_iff]
     constructor
     · intro hs
       have := h.slide hs e0
       rw [show ((b.toNat : Nat) : Int) = b by omega]
       have e1 := (Int.emod_eq_emod_iff_emod_sub_eq_zero).mpr this
       rw [e1, Int.emod_eq_of_lt hb0 hb1]
     · intro e
       have e1 : (0 + (c : Int)) = b + (l : Int) * ((0 + (c : Int)) / l) := by
         have := Int.emod_add_mul_ediv (0 + (c : Int)) l
         rw [e] at this
         omega
       have := e0.add (h.lS.mul ((0 + (c : Int)) / l))
       rw [Int.mul_zero, Int.add_zero, Int.mul_comm, ← e1] at this
       exact this
    rw [hf]
    exact this
  · rename_i hz
    have : (rgD 0 n).filter (shP n f a) = [] := by
      rw [List.filter_eq_nil_iff]
      intro d hd
      obtain ⟨c, hc, rfl⟩ := mem_rg hd
      show ¬ shB n f a (0 + (c : Int)) = true
      rw [shB_iff hn]
      exact fun z => hz (h.mdvd z)
    rw [this]; simp
def cntN (n : Nat) (f : Cp) (r : Nat) : Nat := ((rgD 0 n).filter (shP n f (r : Nat))).length
def everyN (n : Nat) (f : Cp) (k : Nat) : Nat := ((List.range k).map (cntN n f)).sum
theorem everyN_succ (n : Nat) (f : Cp) (k : Nat) : everyN n f (k + 1) = everyN n f k + cntN n f k := by
  unfold everyN
  rw [List.range_succ, List.map_append, List.sum_append]
  simp
theorem rg_succ (k : Nat) : rgD 0 (k + 1) = rgD 0 k ++ [.int k] := by
  unfold rgD
  rw [List.range_succ, List.map_append]
  simp
theorem Lst.every {n : Nat} {f : Cp} {m l : Nat} {s : Int} (hn : 0 < n) (h8 : n ≤ 8) (h : Lst n f m l s) : ∀ k : Nat, everyN n f k * l = ((rgD 0 k).filter (resP m 0)).length * n
  | 0 => by simp [everyN, rgD]
  | k + 1 => by
    have ih := h.every hn h8 k
    have hc := h.count hn h8 (k : Int)
    rw [everyN_succ, Nat.add_mul, ih, rg_succ, List.filter_append, List.length_append, Nat.add_mul]
    congr 1
    show cntN n f k * l = _
    unfold cntN
    rw [hc]
    by_cases hz : (k : Int) % m = 0
    · rw [if_pos hz, List.filter_cons_of_pos (by show decide ((k : Int) % m = 0) = true; exact decide_eq_true hz)]
      simp
    · rw [if_neg hz, List.filter_cons_of_neg (by show ¬ decide ((k : Int) % m = 0) = true; simp [hz])]
      simp
theorem Lst.total {n : Nat} {f : Cp} {m l : Nat} {s : Int} (hn : 0 < n) (h8 : n ≤ 8) (h : Lst n f m l s) : (everyN n f n : Int) * m * l = (n : Int) * n := by
  have m0 := h.m0
  have mn := h.mn
  have h1 := h.every hn h8 n
  have h2 := count_res n (List.mem_range.mpr (by omega)) m (List.mem_range.mpr (by omega)) m0 (by have := h.dn.1; omega) 0 (by decide) m0
  have h3 : everyN n f n * m * l = n * n := by
    rw [Nat.mul_assoc, Nat.mul_comm m l, ← Nat.mul_assoc, h1, Nat.mul_assoc, Nat.mul_comm n m, ← Nat.mul_assoc]
    have h2' : ((rgD 0 n).filter (resP m 0)).length * m = n := h2
    rw [h2']
  have := congrArg (fun x : Nat => (x : Int)) h3
  simpa using this
/-! cells -/
def Drw (n : Nat) (f : Cp) (M L : Nat) (s : Int) (g : Cp) : Prop := ∀ r c : Int, slF M L s g r c = enF n f r c
def agr (n : Nat) (f : Cp) (M L : Nat) (g : Cp) : Prop := ∀ r c : Int, 0 ≤ r → r < M → 0 ≤ c → c < L → g r c = enF n f r c
/-! the search of the least -/
def optI : Option Int → D
  | none => .non
  | some s => .int s
def SlideU (n : Nat) (f : Cp) (a : Int) (l : Nat) : Option Int → Prop
  | some s => 0 ≤ s ∧ s < l ∧ Sh n f a s
  | none => ∀ b : Int, 0 ≤ b → b < l → ¬ Sh n f a b
def cutF (l : Int) : D → D
  | .str z => .str (L2.cutS z none (some l))
  | d => d
/-- what the law gathers: at row i (counted from nought: a = 1 + i) ahead of far j -/
structure HeadOf (m : Nat) (s : Int) (L : List D) (i j l : Nat) : Prop where
  len : L.length ≤ i * l + j
  lo : (i + 1 < m ∨ (i + 1 = m ∧ (j : Int) ≤ s)) → L = []
  hi : ¬ (i + 1 < m ∨ (i + 1 = m ∧ (j : Int) ≤ s)) → L[0]? = some (.tup [.int m, .int s])
theorem HeadOf.nil {m : Nat} {s : Int} {l : Nat} (m0 : 0 < m) (s0 : 0 ≤ s) : HeadOf m s [] 0 0 l := ⟨by simp, fun _ => rfl, fun h => absurd (by omega) h⟩
theorem HeadOf.last {m n : Nat} {s : Int} {L : List D} {l : Nat} (h : HeadOf m s L n 0 l) (mn : m ≤ n) : L2.atI L 0 = some (.tup [.int m, .int s]) := atI_of (j := 0) rfl (h.hi (by omega))
theorem HeadOf.row {m : Nat} {s : Int} {L : List D} {i l : Nat} (h : HeadOf m s L i l l) (s0 : 0 ≤ s) (sl : s < l) : HeadOf m s L (i + 1) 0 l := ⟨by rw [Nat.succ_mul]; exact h.len, fun z => h.lo (by omega), fun z => h.hi (by omega)⟩
theorem HeadOf.skip {m : Nat} {s : Int} {L : List D} {i j l : Nat} (h : HeadOf m s L i j l) (hn : (1 + (i : Int)) = m → (j : Int) = s → False) : HeadOf m s L i (j + 1) l := ⟨by have := h.len; omega, fun z => h.lo (by omega), fun z => h.hi fun z2 => by
  by_cases e : i + 1 = m ∧ (j : Int) = s
  · exact hn (by omega) e.2
  · omega⟩
theorem Lst.first {n : Nat} {f : Cp} {m l : Nat} {s : Int} (h : Lst n f m l s) {i j : Nat} (hs : Sh n f (1 + (i : Int)) (0 + (j : Int))) (hj : j < l) (_ : i < n) (_ : 0 < n) : ¬ (i + 1 < m ∨ (i + 1 = m ∧ (j : Int) < s)) := by
  rw [Int.zero_add] at hs
  rintro (h1 | ⟨h1, h2⟩)
  · exact h.mM _ (by omega) (by omega) _ (by omega) (by omega) hs
  · rw [show 1 + (i : Int) = m by omega] at hs
    have := h.slide_eq hs (by omega) (by omega)
    omega
theorem agr_self {n : Nat} {f : Cp} {M L : Nat} (hM : M ≤ n) (hL : L ≤ n) : agr n f M L f := fun r c h0 h1 h2 h3 => by
  unfold enF
  rw [Int.emod_eq_of_lt h0 (by omega), Int.emod_eq_of_lt h2 (by omega)]
def CellI (n : Nat) (f : Cp) (M L : Nat) (s : Int) (g : Cp) (b : Bool) : Prop := b = true ↔ agr n f M L g ∧ Sh n f 0 L ∧ Sh n f M s
theorem Lst.cell {n : Nat} {f : Cp} {m l : Nat} {s : Int} (h : Lst n f m l s) {b : Bool} (hb : CellI n f m l s f b) : b = true := hb.mpr ⟨agr_self h.mn h.ln, h.lS, h.mS⟩
theorem Lst.other {n : Nat} {f : Cp} {m l : Nat} {s : Int} (h : Lst n f m l s) {s' : Int} {b : Bool} (h0 : 0 ≤ s') (h1 : s' < l) (hne : s' ≠ s) (hb : CellI n f m l s' f b) : b = false := by
  cases b with
  | false => rfl
  | true => exact absurd (h.slide_eq (hb.mp rfl).2.2 h0 h1) hne
def dblF : D → D
  | .str z => .str (z ++ z)
  | d => d
theorem ne_cc {k : Nat} {g g' : Cp} {Q : RV → Prop} (hf : okC g) (e : cpD k g' = cpD k g) (q : Q (.val (.bl false))) : opNe (cpD k g') (cpD k g) Q := by
  have e0 : opNe (cpD k g') (cpD k g) Q = (D.okD 60 (cpD k g').un = true ∧ D.okD 60 (cpD k g).un = true ∧ Q (.val (.bl (!decide ((cpD k g').un = (cpD k g).un))))) := rfl
  rw [e0, e]
  refine ⟨ok_cp hf, ok_cp hf, ?_⟩
  rw [decide_eq_true rfl]
  exact q
def DrwI (n : Nat) (f : Cp) (M L : Nat) (s : Int) (g : Cp) (b : Bool) : Prop := b = true ↔ Drw n f M L s g
/-- a cell among those tried -/
def CellD (d : D) : Prop := ∃ (M L : Nat) (s : Int) (g : Cp), 0 < M ∧ M ≤ 8 ∧ 0 < L ∧ L ≤ 8 ∧ 0 ≤ s ∧ s ≤ 100 ∧ d = .tup [rcD M L g, .int s]
end VN

/-! VQ: circles, seeds, what is grown -/
namespace VN
open PySem VS PySem.W
theorem CInv.one {n : Nat} {L : List Mv} {p : Pl} (hp : p ∈ allP n) : CInv (ledP n) L [p] (allP n) [p] [p] (2 * (allP n).length - 1) := by
  have := CInv.init (st := ledP n) (L := L) (B := []) (U := allP n) (a := p) (by simp) (by simp) (by simp) (by simpa using hp)
  simpa using this
/-- the circles whose roots are ahead of (i, j) -/
noncomputable def preR (n : Nat) (L : List Mv) (i j : Nat) : List Pl := (preP n i j).filter fun p => decide (rootP n L p = p)
theorem preR_row (n : Nat) (L : List Mv) (i : Nat) : preR n L (i + 1) 0 = preR n L i n := by unfold preR; rw [preP_row]
theorem preR_all (n : Nat) (L : List Mv) : preR n L n 0 = rootsL n L := by unfold preR rootsL; rw [preP_all]
theorem preR_in {n : Nat} {L : List Mv} {i j : Nat} (h : rootP n L ((i : Int), (j : Int)) = ((i : Int), (j : Int))) : preR n L i (j + 1) = preR n L i j ++ [((i : Int), (j : Int))] := by
  unfold preR
  rw [preP_succ, List.filter_append]
  congr 1
  rw [List.filter_cons_of_pos (by simpa using h)]
  rfl
theorem preR_out {n : Nat} {L : List Mv} {i j : Nat} (h : ¬ rootP n L ((i : Int), (j : Int)) = ((i : Int), (j : Int))) : preR n L i (j + 1) = preR n L i j := by
  unfold preR
  rw [preP_succ, List.filter_append, List.filter_cons_of_neg (by simpa using h)]
  simp
theorem preR_len (n : Nat) (L : List Mv) (i j : Nat) : (preR n L i j).length ≤ i * n + j := by
  unfold preR
  refine Nat.le_trans (List.length_filter_le _ _) ?_
  rw [preP_len]
  exact Nat.le_refl _
theorem RInv.noroot {n i j : Nat} {L : List Mv} {F : List Pl} (h : RInv n L i j F) (hF : ((i : Int), (j : Int)) ∈ F) : ¬ rootP n L ((i : Int), (j : Int)) = ((i : Int), (j : Int)) := fun e => by
  have := ((h.mem _).mp hF).2
  rw [e] at this
  exact ltP_irrefl _ this
theorem RInv.circ {n i j : Nat} (hn : 0 < n) {L : List Mv} (ok : ∀ x ∈ L, x.ok n) {F : List Pl} (h : RInv n L i j F) (hp : ((i : Int), (j : Int)) ∈ allP n) (hF : ((i : Int), (j : Int)) ∉ F) : (F ++ circP n L ((i : Int), (j : Int))).Nodup ∧ RInv n L i (j + 1) (F ++ circP n L ((i : Int), (j : Int))) := by
  have hr := h.root hp rfl rfl hF
  have hd : (F ++ circP n L ((i : Int), (j : Int))).Nodup := by
    rw [List.nodup_append]
    refine ⟨h.nd, circP_nodup _ _ _, fun a ha b hb e => ?_⟩
    subst e
    have h1 := ((h.mem a).mp ha).2
    rw [rootP_eq hn ok hp (mem_circP.mp hb).2, hr] at h1
    exact ltP_irrefl _ h1
  refine ⟨hd, hd, fun q => ?_⟩
  rw [List.mem_append, h.mem, mem_circP]
  constructor
  · rintro (⟨h1, h2⟩ | ⟨h1, h2⟩)
    · refine ⟨h1, ?_⟩
      unfold ltP at h2 ⊢
      simp only at h2 ⊢
      omega
    · refine ⟨h1, ?_⟩
      rw [rootP_eq hn ok hp h2, hr]
      exact .inr ⟨rfl, by show (j : Int) < ((j + 1 : Nat) : Int); omega⟩
  · rintro ⟨h1, h2⟩
    by_cases e : rootP n L q = ((i : Int), (j : Int))
    · exact .inr ⟨h1, (rootP_iff hn ok hp h1).mp (by rw [hr, e])⟩
    · refine .inl ⟨h1, ?_⟩
      have : ¬ ((rootP n L q).1 = (i : Int) ∧ (rootP n L q).2 = (j : Int)) := fun z => e (Prod.ext z.1 z.2)
      unfold ltP at h2 ⊢
      simp only at h2 ⊢
      omega
/-! what is grown -/
def pairD (q : Pl × Nat) : D := .tup [dP q.1, sgn q.2]
/-- S tells for each circle a knot of g -/
structure Gs (n : Nat) (L : List Mv) (S : List (Pl × Nat)) (g : Cp) : Prop where
  inp : ∀ q ∈ S, q.1 ∈ allP n
  eq : ∀ q ∈ S, ∀ p, RchP n L q.1 p → g p.1 p.2 = q.2
  cov : ∀ p ∈ allP n, ∃ q ∈ S, RchP n L q.1 p
def gD (g : Cp) : Pl → D := fun p => sgn (g p.1 p.2)
/-- the places coloured: by the S of T, and by those of C -/
structure GrI (n : Nat) (L : List Mv) (T : List (Pl × Nat)) (C F : List Pl) : Prop where
  nd : F.Nodup
  mem : ∀ p, p ∈ F ↔ (∃ q ∈ T, RchP n L q.1 p) ∨ p ∈ C
  inn : ∀ p ∈ F, p ∈ allP n
theorem GrI.zero {n : Nat} {L : List Mv} : GrI n L [] [] [] := ⟨by simp, by simp, by simp⟩
theorem GrI.len {n : Nat} {L : List Mv} {T : List (Pl × Nat)} {C F : List Pl} (h : GrI n L T C F) : F.length ≤ n * n := by
  rw [← allP_len n]
  exact nodup_le' h.nd h.inn
theorem GrI.next {n : Nat} {L : List Mv} {T : List (Pl × Nat)} {q : Pl × Nat} {F : List Pl} (hn : 0 < n) (hq : q.1 ∈ allP n) (h : GrI n L T (circP n L q.1) F) : GrI n L (T ++ [q]) [] F := by
  refine ⟨h.nd, fun p => ?_, h.inn⟩
  rw [h.mem, mem_circP]
  constructor
  · rintro (⟨r, h1, h2⟩ | ⟨h1, h2⟩)
    · exact .inl ⟨r, List.mem_append_left _ h1, h2⟩
    · exact .inl ⟨q, by simp, h2⟩
  · rintro (⟨r, h1, h2⟩ | h1)
    · rcases List.mem_append.mp h1 with h1 | h1
      · exact .inl ⟨r, h1, h2⟩
      · rw [List.mem_singleton.mp h1] at h2
        exact .inr ⟨rchP_in hn hq h2, h2⟩
    · exact absurd h1 (by simp)
theorem GrI.put {n : Nat} {L : List Mv} {T : List (Pl × Nat)} {C F : List Pl} {g : Cp} {p : Pl} (h : GrI n L T C F) (hp : p ∈ allP n) : ∃ F', GrI n L T (C ++ [p]) F' ∧ dput (kvA dP (gD g) F) (dP p) (gD g p) = kvA dP (gD g) F' := by
  by_cases hin : p ∈ F
  · refine ⟨F, ⟨h.nd, fun x => ?_, h.inn⟩, kvA_put_in dP_inj hin⟩
    rw [h.mem, List.mem_append, List.mem_singleton]
    constructor
    · rintro (k | k)
      · exact .inl k
      · exact .inr (.inl k)
    · rintro (k | k | k)
      · exact .inl k
      · exact .inr k
      · rw [k]; exact (h.mem p).mp hin
  · refine ⟨F ++ [p], ⟨?_, fun x => ?_, fun x hx => ?_⟩, kvA_put dP_inj hin⟩
    · rw [List.nodup_append]
      exact ⟨h.nd, by simp, fun a ha b hb e => hin (by rw [List.mem_singleton] at hb; rw [← hb, ← e]; exact ha)⟩
    · rw [List.mem_append, h.mem, List.mem_append, List.mem_singleton]
      constructor
      · rintro ((k | k) | k)
        · exact .inl k
        · exact .inr (.inl k)
        · exact .inr (.inr k)
      · rintro (k | k | k)
        · exact .inl (.inl k)
        · exact .inl (.inr k)
        · exact .inr k
    · rcases List.mem_append.mp hx with hx | hx
      · exact h.inn x hx
      · rw [List.mem_singleton.mp hx]; exact hp
theorem GrI.all {n : Nat} {L : List Mv} {S : List (Pl × Nat)} {F : List Pl} {g : Cp} (h : GrI n L S [] F) (hS : Gs n L S g) {p : Pl} (hp : p ∈ allP n) : dget (kvA dP (gD g) F) (dP p) = some (gD g p) :=
  kvA_in dP_inj ((h.mem p).mpr (.inl (hS.cov p hp)))
/-! what leaves keeps the knots of a circle -/
/-! a knot for each root -/
noncomputable def rk (n : Nat) (L : List Mv) (k : Nat) : Pl := (rootsL n L).getD k (0, 0)
noncomputable def SX (n : Nat) (L : List Mv) (ch : Nat → Nat) : List (Pl × Nat) := (List.range (rootsL n L).length).map fun k => (rk n L k, ch k)
noncomputable def gX (n : Nat) (L : List Mv) (ch : Nat → Nat) : Cp := fun r c => ch ((rootsL n L).idxOf (rootP n L (r, c)))
theorem root_mem {n : Nat} (hn : 0 < n) {L : List Mv} (ok : ∀ m ∈ L, m.ok n) {p : Pl} (hp : p ∈ allP n) : rootP n L p ∈ rootsL n L := mem_rootsL.mpr ⟨rootP_in hp, rootP_root hn ok hp⟩
theorem roots_len (n : Nat) (L : List Mv) : (rootsL n L).length ≤ n * n := by
  rw [← allP_len n]
  exact List.length_filter_le _ _
def putN (ch : Nat → Nat) (a x : Nat) : Nat → Nat := fun k => if k = a then x else ch k
theorem three_P {n : Int} {L : List D} {a b : Int} : [D.int n, .lst L, dPl a b] = [.int n, .lst L, dP (a, b)] := rfl
def dueF (f : Cp) : D → D
  | .lst (.tup [.int r, .int c] :: _) => .tup [dPl r c, sgn (f r c)]
  | d => d
def chN (ns : List Int) (k : Nat) : Nat := 97 + (mixA (cellAt ns (7 + (0 + (k : Int)))) (90 + (0 + (k : Int))) % 5).toNat
end VN

/-! VR: ways that bend, wide movements, mirrors, loose ones -/
namespace VN
open PySem VS PySem.W
def wD (w : Way) : D := .str w.str
def bW : List Way := [.cross, .flip, .other, .side]
def inW (L : List Mv) (w : Way) : Bool := L.any fun m => decide (m.w = w)
def wayF : D → D
  | .tup (w :: _) => w
  | d => d
@[irreducible] def turnL (L : List Mv) : Int := if inW L .turn = true then 4 else if inW L .half = true then 2 else 1
@[irreducible] def bendL (L : List Mv) : List Way := bW.filter (inW L)
def redM (n : Int) (m : Mv) : Mv := ⟨m.w, m.d % n, m.r % n⟩
def wideB (n : Int) (L : List Mv) (m : Mv) : Bool := decide (redM n m ∈ L)
@[irreducible] def wideL (n : Nat) (L : List Mv) : List Mv := (allOf (bendL L) (2 * n)).filter (wideB n L)
def inWayQ (L : List Mv) : D → Bool := fun d => decide (d ∈ L.map fun m => wD m.w)
theorem in_kvM3 {neg : Bool} {v : D} {w : Way} {a b : Int} {F : List Mv} {Q : RV → Prop} (q : Q (.val (.bl (neg ^^ decide ((⟨w, a, b⟩ : Mv) ∈ F))))) : opIn neg (.tup [.str w.str, .int a, .int b]) (.dic true (kvM v F)) Q := in_kvM (m := ⟨w, a, b⟩) q
theorem in_listM3 {neg : Bool} {w : Way} {a b : Int} {F : List Mv} {Q : RV → Prop} (q : Q (.val (.bl (neg ^^ decide ((⟨w, a, b⟩ : Mv) ∈ F))))) : opIn neg (.tup [.str w.str, .int a, .int b]) (.lst (F.map dM)) Q := in_listM (m := ⟨w, a, b⟩) q
/-! mirrors -/
def mirS (n : Int) (F : List Mv) (m : Mv) : List Mv := if (F.any fun x => decide (x.w = m.w)) = false ∧ mirB n m = true then F ++ [m] else F
@[irreducible] def mirL (n : Nat) (L : List Mv) : List Mv := (wideL n L).foldl (mirS n) []
def optIn (L : List Mv) : Option Mv → Bool
  | some x => decide (x ∈ L)
  | none => false
@[irreducible] def stIn (n : Int) (L : List Mv) (m : Mv) : Bool := optIn L (standM n m)
@[irreducible] def looseL (n : Nat) (L : List Mv) : Option Mv := (wideL n L).find? fun m => !stIn n L m
def mirW (n : Nat) (L : List Mv) (w : Way) : List Mv := ((wideL n L).filter fun m => decide (m.w = w) && mirB n m).take 1
abbrev paperD (n : Nat) (L : List Mv) : D := .tup [.int (turnL L), .lst ((bendL L).map wD), .lst ((mirL n L).map dM), optM (looseL n L)]
/-- a turn, twice, is half -/
def HalfOk (L : List Mv) : Prop := inW L .turn = true → inW L .half = true
end VN

/-! VV: kinds -/
namespace VN
open PySem VS PySem.W
def thnZ (a b : Mv) : Mv := ⟨mulW a.w b.w, gR b.w a.d a.r + b.d, gC b.w a.d a.r + b.r⟩
def invZ (a : Mv) : Mv := ⟨invW a.w, -gR (invW a.w) a.d a.r, -gC (invW a.w) a.d a.r⟩
def conjN (n : Int) (g m : Mv) : Mv := thn n (thn n (inv n g) m) g
def conjZ (g m : Mv) : Mv := thnZ (thnZ (invZ g) m) g
def cW (v w : Way) : Way := mulW (mulW (invW v) w) v
def cWr (v w : Way) : Way := cW (invW v) w
/-! what tells a mirror -/
def mphi (m : Mv) : Int := match m.w with
  | .side => m.d
  | .flip => m.r
  | .cross => m.d + m.r
  | .other => m.d - m.r
  | _ => 1
/-! stands -/
def standZ (m : Mv) : Option Mv := if (m.d - gR m.w m.d m.r) % 2 = 1 ∨ (m.r - gC m.w m.d m.r) % 2 = 1 then none else some ⟨m.w, (m.d - gR m.w m.d m.r) / 2, (m.r - gC m.w m.d m.r) / 2⟩
/-! kinds -/
def wordF (t : Int) (b : Bool) (k : Nat) (l : Bool) : Str :=
  if b = true then (if t = 4 then "p4" else if t = 2 then "p2" else "p1") else
  if t = 4 then (if k = 4 then "p4m" else "p4g") else
  if t = 1 then (if k = 0 then "pg" else if l = true then "pm" else "cm") else
  if k = 0 then "pgg" else if k = 1 then "pmg" else if l = true then "pmm" else "cmm"
def kindL (n : Nat) (L : List Mv) : Str := wordF (turnL L) (bendL L).isEmpty (mirL n L).length (looseL n L).isNone
def hasMir (n : Nat) (L : List Mv) (w : Way) : Bool := (wideL n L).any fun m => decide (m.w = w) && mirB n m
def hasLoose (n : Nat) (L : List Mv) : Bool := (wideL n L).any fun m => !stIn n L m
structure Sim (n : Nat) (E : List Mv) (n' : Nat) (E' : List Mv) (v : Way) : Prop where
  w : ∀ w, inW E' (cW v w) = inW E w
  m : ∀ w, hasMir n' E' (cW v w) = hasMir n E w
  l : hasLoose n' E' = hasLoose n E
/-- turn and back come together -/
def TB (E : List Mv) : Prop := inW E .turn = inW E .back
def WC (E : List Mv) : Prop := ∀ a b, inW E a = true → inW E b = true → inW E (mulW a b) = true
def conjF (n : Int) (g : Mv) : D → D := fun d => dM (conjN n g (unM d))
end VN

/-! VSV: x = [..] where x is a cell -/
namespace VS
open PySem PySem.Spec L2
variable {c : Cfg} {scope : Scope}
def cellB (sc : Scope) (y : Str) : Bool := match sc.names.lookup y with | some .cell => true | _ => false
end VS

/-! VSW: x = f(..), looked at; then lists within x changed, and x left -/
namespace VS
open PySem PySem.Spec L2
/-! ### data without lists -/
mutual
def D.tO : D → Bool
  | .non => true
  | .bl _ => true
  | .int _ => true
  | .str _ => true
  | .ty _ => true
  | .tup xs => D.tOL xs
  | .ktup xs => D.tOL xs
  | _ => false
  termination_by structural d => d
def D.tOL : List D → Bool
  | [] => true
  | d :: ds => D.tO d && D.tOL ds
  termination_by structural d => d
end
theorem tOL_map {α : Type} {f : α → D} (h : ∀ x, (f x).tO = true) : ∀ l : List α, D.tOL (l.map f) = true
  | [] => rfl
  | x :: l => by simp only [List.map_cons, D.tOL, h, tOL_map h l, Bool.and_self]
def tupsH (G : Hp) : Hp := fun a => match G a with
  | some (.tup vs) => some (.tup vs)
  | _ => none
theorem tupsH_same (G : Hp) : Same (tupsH G) G := fun b o e => by
  unfold tupsH at e
  split at e
  · rename_i vs q
    cases e
    exact q
  · cases e
theorem tupsH_tup {G : Hp} {a : Addr} {o : HO} (h : tupsH G a = some o) : isTupO o = true := by
  unfold tupsH at h
  split at h
  · cases h; rfl
  · cases h
mutual
theorem Rep.tO {K : PySem.W.Frag} {w : World} {G : Hp} : ∀ {v : V} {d : D}, Rep K w G v d → d.tO = true → Rep K w (tupsH G) v d
  | _, _, .non, _ => .non
  | _, _, .bl b, _ => .bl b
  | _, _, .int i, _ => .int i
  | _, _, .str x, _ => .str x
  | _, _, .ty n, _ => .ty n
  | _, _, .tup q r, h => .tup (by unfold tupsH; rw [q]) (RepL.tO r (by simpa only [D.tO] using h))
  | _, _, .ktup q r, h => .ktup q (RepL.tO r (by simpa only [D.tO] using h))
  | _, _, .lst _ _, h => by simp [D.tO] at h
  | _, _, .dicK _ _, h => by simp [D.tO] at h
  | _, _, .dicT _ _, h => by simp [D.tO] at h
  | _, _, .dicC _, h => by simp [D.tO] at h
  | _, _, .exc _ _ _ _, h => by simp [D.tO] at h
  | _, _, .dix _ _, h => by simp [D.tO] at h
  | _, _, .ins _ _ _ _, h => by simp [D.tO] at h
theorem RepL.tO {K : PySem.W.Frag} {w : World} {G : Hp} : ∀ {v : List V} {d : List D}, RepL K w G v d → D.tOL d = true → RepL K w (tupsH G) v d
  | _, _, .nil, _ => .nil
  | _, _, .cons q r, h => by
    simp only [D.tOL, Bool.and_eq_true] at h
    exact .cons (Rep.tO q h.1) (RepL.tO r h.2)
end
def topO : D → Bool
  | .lst xs => D.tOL xs
  | d => d.tO
theorem RD.tO {K : PySem.W.Frag} {w : World} {H G : Hp} {v : V} {d : D} (h : RD K w H G v d) (ho : topO d = true) : RD K w H (tupsH G) v d := by
  cases d with
  | lst ds => obtain ⟨a, vs, e, q, r⟩ := h; exact ⟨a, vs, e, q, r.tO ho⟩
  | dic b ds => simp [topO, D.tO] at ho
  | tup ds => exact Rep.tO h ho
  | ktup ds => exact Rep.tO h ho
  | kdic ds => simp [topO, D.tO] at ho
  | exc x ds => simp [topO, D.tO] at ho
  | dix ds => simp [topO, D.tO] at ho
  | ins x ds => simp [topO, D.tO] at ho
  | non => exact Rep.tO h ho
  | bl b => exact Rep.tO h ho
  | int b => exact Rep.tO h ho
  | str b => exact Rep.tO h ho
  | ty b => exact Rep.tO h ho
def argO : List Bool → List D → Bool
  | true :: ms, d :: ds => topO d && argO ms ds
  | false :: ms, d :: ds => d.tO && argO ms ds
  | _, _ => true
theorem ArgsR.tO {K : PySem.W.Frag} {w : World} {G H : Hp} : ∀ {ms : List Bool} {vs : List V} {ds : List D}, ArgsR K w G H ms vs ds → argO ms ds = true → ArgsR K w (tupsH G) H ms vs ds
  | _, _, _, .nil, _ => .nil
  | _, _, _, .bor q r, h => by
    simp only [argO, Bool.and_eq_true] at h
    exact .bor (q.tO h.1) (ArgsR.tO r h.2)
  | _, _, _, .val q r, h => by
    simp only [argO, Bool.and_eq_true] at h
    exact .val (q.tO h.1) (ArgsR.tO r h.2)
/-! ### the region -/
def uni (G A : Hp) : Hp := fun a => match G a with
  | some o => some o
  | none => A a
theorem uni_l (G A : Hp) : Same G (uni G A) := fun b o e => by unfold uni; rw [e]
theorem uni_r {G A H : Hp} (g : Same G H) (a : Same A H) : Same A (uni G A) := fun b o e => by
  unfold uni
  cases q : G b with
  | none => exact e
  | some o' =>
    have h1 := g b o' q
    have h2 := a b o e
    rw [h1] at h2
    exact h2
theorem uni_h {G A H : Hp} (g : Same G H) (a : Same A H) : Same (uni G A) H := fun b o e => by
  unfold uni at e
  split at e
  · rename_i o' q
    cases e
    exact g b o q
  · exact a b o e
def scal : D → Bool
  | .non => true
  | .bl _ => true
  | .int _ => true
  | .str _ => true
  | _ => false
theorem Rep.scal {K : PySem.W.Frag} {w : World} {G G' : Hp} {v : V} {d : D} (h : Rep K w G v d) (s : VS.scal d = true) : Rep K w G' v d := by
  cases h <;> first | exact .non | exact .bl _ | exact .int _ | exact .str _ | (simp [VS.scal] at s)
def lendS : Slot → Slot
  | .own d => .bor d
  | .val d => .bor d
  | s => s
def lendE (env : Env) : Env := env.map lendS
def backS (s0 s : Slot) : Slot := match s with
  | .bor _ => s0
  | .val d => if scal d = true then .val d else .emp
  | _ => .emp
def backE (e0 env : Env) : Env := List.zipWith backS e0 env
theorem back_get {e0 env : Env} {j : Nat} {s : Slot} (h : (backE e0 env)[j]? = some s) : ∃ s0 s1, e0[j]? = some s0 ∧ env[j]? = some s1 ∧ s = backS s0 s1 := by
  unfold backE at h
  rw [List.getElem?_zipWith] at h
  cases h1 : e0[j]? <;> cases h2 : env[j]? <;> rw [h1, h2] at h <;> simp at h
  exact ⟨_, _, rfl, rfl, h.symm⟩
theorem back_len {e0 env : Env} (h : e0.length = env.length) : (backE e0 env).length = env.length := by unfold backE; simp [h]
variable {c : Cfg}
theorem RepEnv.up {G B H H' : Hp} {σ : St} {env : Env} (E : RepEnv c G B H σ env) (s : Same H H') : RepEnv c G B H' σ env where
  gh := E.gh.trans s
  bh := E.bh.trans s
  len := E.len
  val := E.val
  own := fun i d e => by
    obtain ⟨a, o, h1, h2, h3, h4, h5⟩ := E.own i d e
    exact ⟨a, o, h1, h2, h3, s _ _ h4, h5⟩
  bor := E.bor
  dis := E.dis
/-- what is kept, behind statements that read -/
theorem back_mk {G G' B HB HB' H' : Hp} {σ σ' : St} {e0 env env' : Env} (E0 : RepEnv c G B HB σ (backE e0 env)) (hl : e0.length = env.length) (E' : RepEnv c G' HB' H' σ' env') (hl' : env'.length = env.length) (b : BorS env env' σ σ') :
    RepEnv c G B HB σ' (backE e0 env') ∧ BorS (backE e0 env) (backE e0 env') σ σ' := by
  have key : ∀ (j : Nat) (s : Slot), (backE e0 env')[j]? = some s → (∃ d, s = .val d ∧ scal d = true ∧ env'[j]? = some (.val d)) ∨ s = .emp ∨ ((backE e0 env)[j]? = some s ∧ σ'[j]? = σ[j]?) := fun j s h => by
    obtain ⟨s0, s1, h1, h2, rfl⟩ := back_get h
    cases s1 with
    | emp => exact .inr (.inl rfl)
    | own d => exact .inr (.inl rfl)
    | val d =>
      by_cases q : scal d = true
      · refine .inl ⟨d, ?_, q, h2⟩
        show (if scal d = true then Slot.val d else Slot.emp) = _
        rw [if_pos q]
      · refine .inr (.inl ?_)
        show (if scal d = true then Slot.val d else Slot.emp) = _
        rw [if_neg q]
    | bor d =>
      obtain ⟨k1, k2⟩ := b j d h2
      refine .inr (.inr ⟨?_, k2⟩)
      show (backE e0 env)[j]? = some s0
      unfold backE
      rw [List.getElem?_zipWith, h1, k1]
      rfl
  refine ⟨⟨E0.gh, E0.bh, ?_, fun j d e => ?_, fun j d e => ?_, fun j d e => ?_, fun j k d1 d2 a e1 e2 h1 h2 => ?_⟩, fun j d e => ?_⟩
  · rw [back_len (by omega), E'.len]
  · rcases key j _ e with ⟨d', q1, q2, q3⟩ | q | ⟨q1, q2⟩
    · cases q1
      obtain ⟨v, k1, k2⟩ := E'.val j d q3
      exact ⟨v, k1, k2.scal q2⟩
    · cases q
    · rw [q2]; exact E0.val j d q1
  · rcases key j _ e with ⟨d', q1, q2, q3⟩ | q | ⟨q1, q2⟩
    · cases q1
    · cases q
    · rw [q2]; exact E0.own j d q1
  · rcases key j _ e with ⟨d', q1, q2, q3⟩ | q | ⟨q1, q2⟩
    · cases q1
    · cases q
    · rw [q2]; exact E0.bor j d q1
  · rcases key j _ e1 with ⟨d', q1, q2, q3⟩ | q | ⟨q1, q2⟩
    · cases q1
    · cases q
    · rcases key k _ e2 with ⟨d', p1, p2, p3⟩ | p | ⟨p1, p2⟩
      · cases p1
      · cases p
      · rw [q2] at h1
        rw [p2] at h2
        exact E0.dis j k d1 d2 a q1 p1 h1 h2
  · rcases key j _ e with ⟨d', q1, q2, q3⟩ | q | ⟨q1, q2⟩
    · cases q1
    · cases q
    · exact ⟨q1, q2⟩
/-! ### the second part: lists within are changed -/
def PreO (k : Nat) (o : HO) (o' : Option HO) : Prop := match o with
  | .lst vs => ∃ ws, o' = some (.lst (vs ++ ws)) ∧ ws.length ≤ k
  | o => o' = some o
structure DSt (c : Cfg) (G B A H : Hp) (σ : St) (env : Env) (i : Nat) (v : V) (d : D) (k : Nat) : Prop where
  E : RepEnv c G B H σ env
  a : Rep c.K c.w A v d
  pre : ∀ b o, A b = some o → PreO k o (H b)
  dg : ∀ b vs, A b = some (.lst vs) → G b = none ∧ B b = none
  dow : ∀ (j : Nat) (d' : D) (b : Addr), env[j]? = some (Slot.own d') → σ[j]? = some (some (V.ref b)) → A b = none
  vi : σ[i]? = some (some v)
open Classical in
noncomputable def prot (A H B : Hp) : Hp := fun b => if A b = none then B b else H b
theorem DSt.lend {G B A H : Hp} {σ : St} {env : Env} {i k : Nat} {v : V} {d : D} (S : DSt c G B A H σ env i v d k) : RepEnv c G (prot A H B) H σ env := by
  have sb : Same B (prot A H B) := fun b o e => by
    unfold prot
    split
    · exact e
    · exact S.E.bh b o e
  refine ⟨S.E.gh, fun b o e => ?_, S.E.len, S.E.val, fun j d' e => ?_, fun j d' e => ?_, S.E.dis⟩
  · unfold prot at e
    split at e
    · exact S.E.bh b o e
    · exact e
  · obtain ⟨b, o, h1, h2, h3, h4, h5⟩ := S.E.own j d' e
    refine ⟨b, o, h1, h2, ?_, h4, h5⟩
    unfold prot
    rw [if_pos (S.dow j d' b e h1)]
    exact h3
  · obtain ⟨u, h1, h2⟩ := S.E.bor j d' e
    exact ⟨u, h1, h2.mono sb (Same.refl _)⟩
theorem DSt.backB {G G' B A H H' : Hp} {σ σ' : St} {env env' : Env} {i k : Nat} {v : V} {d : D} (S : DSt c G B A H σ env i v d k) (E' : RepEnv c G' (prot A H B) H' σ' env') (x : Ext (prot A H B) G G') (b : BorS env env' σ σ') (vi' : σ'[i]? = some (some v)) : DSt c G' B A H' σ' env' i v d k ∧ Ext B G G' := by
  have sb : Same B (prot A H B) := fun b o e => by
    unfold prot
    split
    · exact e
    · exact S.E.bh b o e
  have inH : ∀ b o, A b = some o → ∃ o', H b = some o' := fun b o e => by
    have hp := S.pre b o e
    unfold PreO at hp
    split at hp
    · obtain ⟨ws, h1, _⟩ := hp; exact ⟨_, h1⟩
    · exact ⟨_, hp⟩
  have hA : ∀ b o, A b = some o → H' b = H b := fun b o e => by
    obtain ⟨o', ho⟩ := inH b o e
    have : prot A H B b = some o' := by unfold prot; rw [if_neg (by rw [e]; simp)]; exact ho
    rw [ho]; exact E'.bh b o' this
  refine ⟨⟨⟨E'.gh, sb.trans E'.bh, E'.len, E'.val, fun j d' e => ?_, fun j d' e => ?_, E'.dis⟩, S.a, fun b o e => ?_, fun b vs e => ?_, fun j d' a e1 e2 => ?_, vi'⟩, x.less sb⟩
  · obtain ⟨a, o, h1, h2, h3, h4, h5⟩ := E'.own j d' e
    exact ⟨a, o, h1, h2, sb.free h3, h4, h5⟩
  · obtain ⟨z1, z2⟩ := b j d' e
    obtain ⟨u, h1, h2⟩ := S.E.bor j d' z1
    exact ⟨u, by rw [z2]; exact h1, h2.mono (Same.refl _) x.1⟩
  · rw [hA b o e]; exact S.pre b o e
  · obtain ⟨h1, h2⟩ := S.dg b vs e
    refine ⟨?_, h2⟩
    obtain ⟨ws, h3, _⟩ := S.pre b _ e
    refine x.none h1 ⟨.lst (vs ++ ws), ?_, rfl⟩
    unfold prot
    rw [if_neg (by rw [e]; simp)]
    exact h3
  · obtain ⟨a', o, h1, h2, h3, h4, h5⟩ := E'.own j d' e1
    rw [e2] at h1
    cases h1
    cases hq : A a with
    | none => rfl
    | some o' =>
      exfalso
      obtain ⟨o2, ho⟩ := inH a o' hq
      unfold prot at h3
      rw [if_neg (by rw [hq]; simp), ho] at h3
      cases h3
theorem DSt.back {G G' B A H H' : Hp} {σ : St} {env : Env} {i k : Nat} {v : V} {d : D} (S : DSt c G B A H σ env i v d k) (E' : RepEnv c G' (prot A H B) H' σ env) (x : Ext (prot A H B) G G') : DSt c G' B A H' σ env i v d k ∧ Ext B G G' := S.backB E' x (BorS.refl _ _) S.vi
theorem noTakes {X : Cx} {G B G1 B1 : Hp} {σ σ1 : St} {env e1 : Env} {Xq : XQ} (tk : Takes X (WXo c G B σ env Xq)) : Takes X (WXo c G1 B1 σ1 e1 noX) := tk.imp fun _ _ _ _ ⟨_, _, _, q, _⟩ => q.elim
theorem DSt.ve {X : Cx} {G B A H : Hp} {σ : St} {env : Env} {i k : Nat} {v : V} {d : D} {e : Expr} {t : ET} {R : RV → Prop} {Xq : XQ} (g : Good c X) (h : VE c e t) (S : DSt c G B A H σ env i v d k) (q : t env (fun rv e1 => e1 = env ∧ R rv) noX) (tk : Takes X (WXo c G B σ env Xq)) :
    TU X e σ H (fun v2 H2 => ∃ G2 rv, DSt c G2 B A H2 σ env i v d k ∧ Ext B G G2 ∧ R rv ∧ RepR c G2 (prot A H B) H2 σ env v2 rv) := by
  refine (h.run X g G (prot A H B) H σ env _ noX S.lend q (noTakes tk)).imp fun v2 H2 ⟨rv, e1, G2, ⟨ee, r⟩, E2, x2, _, rr⟩ => ?_
  subst ee
  obtain ⟨S2, x⟩ := S.back E2 x2
  exact ⟨G2, rv, S2, x, r, rr⟩
/-! paths -/
structure PTH (c : Cfg) (e : Expr) (i : Nat) (f : Env → D → Option D) : Prop where
  run : ∀ (X : Cx), Good c X → ∀ (G B A H : Hp) (σ : St) (env : Env) (v : V) (d : D) (k : Nat) (d' : D) (Xq : XQ) (Q : VK), DSt c G B A H σ env i v d k → f env d = some d' → Takes X (WXo c G B σ env Xq) →
    (∀ v' G' H', DSt c G' B A H' σ env i v d k → Ext B G G' → Rep c.K c.w A v' d' → Q v' H') → TU X e σ H Q
theorem pth_name {i : Nat} {x : Str} {pos : Pos} (hx : VisC c i x) : PTH c (.Name x pos) i (fun _ d => some d) := by
  constructor
  intro X g G B A H σ env v d k d' Xq Q S e tk hQ
  cases e
  obtain ⟨h1, h2, h3, h4⟩ := hx
  refine TU.of (pe_var (by rw [g.N]; exact h1) (by rw [g.scope]; exact h2) h3 h4) ?_
  exact ⟨v, S.vi, hQ _ _ _ S (Ext.refl _ _) S.a⟩
def atD (n : Nat) : D → Option D
  | .lst xs => xs[n]?
  | .tup xs => xs[n]?
  | _ => none
theorem atI_nat {α : Type} {xs : List α} {n : Nat} {x : α} (h : xs[n]? = some x) : L2.atI xs (n : Int) = some x := by
  have hn : n < xs.length := (List.getElem?_eq_some_iff.mp h).1
  unfold L2.atI ixN
  rw [if_pos (by omega)]
  simpa [hn] using h
theorem pth_ix {i n kk : Nat} {a : Expr} {f : Env → D → Option D} {p pos : Pos} (ha : PTH c a i f) : PTH c (.Subscript a (.Constant (.int (n : Int)) kk p) pos) i (fun env d => (f env d).bind (atD n)) := by
  constructor
  intro X g G B A H σ env v d k d' Xq Q S e tk hQ
  obtain ⟨d1, e1, e2⟩ := Option.bind_eq_some_iff.mp e
  have h : IxR X (rIdx c.K c.w) := by
    rw [← g.K, ← g.w]
    exact ix_seq.or (ix_kdict.or (ix_dget (g.hu)))
  refine TU.of (pe_ix h (pe_tu (e := a)) pe_int (plainIx rfl)) ?_
  refine ha.run X g G B A H σ env v d k d1 Xq _ S e1 tk fun x G1 H1 S1 x1 r1 => ?_
  cases d1 <;> try (simp [atD] at e2; done)
  · rename_i xs
    cases r1 with
    | @tup b vs _ q r =>
      obtain ⟨y, h1, h2⟩ := r.get (i := n) (show xs[n]? = some d' from e2)
      exact .inl (.inr (.inl ⟨b, vs, _, y, rfl, rfl, SqT.of (S1.pre _ _ q), atI_nat h1, hQ _ _ _ S1 x1 h2⟩))
  · rename_i xs
    cases r1 with
    | @lst b vs _ q r =>
      obtain ⟨y, h1, h2⟩ := r.get (i := n) (show xs[n]? = some d' from e2)
      obtain ⟨ws, h3, _⟩ := S1.pre _ _ q
      have hn : n < vs.length := (List.getElem?_eq_some_iff.mp h1).1
      exact .inl (.inl ⟨b, vs ++ ws, _, y, rfl, rfl, .inl (.inl h3), atI_nat (by rw [List.getElem?_append_left hn]; exact h1), hQ _ _ _ S1 x1 h2⟩)
def keyD? (ks : D) : D → Option D
  | .dic true kvs => dget kvs ks
  | _ => none
/-- statements of the second part -/
structure VD2 (c : Cfg) (i : Nat) (sts : List Stmt) (u : EndsD → Env → D → Nat → Prop) : Prop where
  run : ∀ (X : Cx), Good c X → ∀ (G B A H : Hp) (σ : St) (env : Env) (v : V) (d : D) (k : Nat) (D : EndsD), DSt c G B A H σ env i v d k → u D env d k → Takes X (WXo c G B σ env D.xq) → TUss X sts (EndsOf c G B σ env D) σ H
theorem DSt.put {G B A H : Hp} {σ : St} {env : Env} {i k m : Nat} {v : V} {d : D} {b : Addr} {vs : List V} {xs : List V} (S : DSt c G B A H σ env i v d k) (hb : A b = some (.lst vs)) : RepEnv c G B (upd H b (.lst xs)) σ env := by
  obtain ⟨h1, h2⟩ := S.dg b vs hb
  have keep : ∀ {F : Hp}, Same F H → F b = none → Same F (upd H b (.lst xs)) := fun {F} s n a u e => by
    have ne : a ≠ b := ne_of_none e n
    rw [upd_ne ne]
    exact s a u e
  refine ⟨keep S.E.gh h1, keep S.E.bh h2, S.E.len, S.E.val, fun j d' e => ?_, S.E.bor, S.E.dis⟩
  obtain ⟨a, o, k1, k2, k3, k4, k5⟩ := S.E.own j d' e
  have ne : a ≠ b := fun z => by
    have := S.dow j d' a e k1
    rw [z, hb] at this
    cases this
  exact ⟨a, o, k1, k2, k3, by rw [upd_ne ne]; exact k4, k5⟩
theorem vd2_app {i : Nat} {a e : Expr} {f : Env → D → Option D} {t : ET} {r : List Stmt} {u : EndsD → Env → D → Nat → Prop} {apos cpos pos : Pos} (ha : PTH c a i f) (he : VE c e t) (hr : VD2 c i r u) (hb : notCall0 a = true := by rfl) (hn : noStar e = true := by rfl) (hline : (apos.endLine == cpos.line) = true := by rfl)
    (hsw : ∀ env : PySem.Env, swapsWith (.Call (.Attribute a "append" apos) [e] [] cpos) none pos.line env = pure false := by intros; rfl) :
    VD2 c i (.Expr (.Call (.Attribute a "append" apos) [e] [] cpos) pos :: r) (fun D env d k => ∃ ds, f env d = some (.lst ds) ∧ k < 1000 ∧ ds.length ≤ 1000000 ∧ t env (fun rv e1 => e1 = env ∧ u D env d (k + 1)) noX) := by
  constructor
  intro X g G B A H σ env v d k D S q tk
  obtain ⟨ds, e1, hk, hl, qt⟩ := q
  have hs := star_cons (es := []) (env := X.env) hn
  refine TUss.of (pss_cons (ps_expr (pe_bm PySem.F.plainAttrs_list PySem.F.slot_list_append PySem.F.type_list_append mt_append (pe_tu (e := a)) (pa_cons (pe_tu (e := e)) pa_nil hs) (base_of hb) (by rw [hs]; rfl) hline hs (by rfl)) (hsw X.env)) (pss_tu (st := r))) ?_
  refine ha.run X g G B A H σ env v d k _ D.xq _ S e1 tk fun x G1 H1 S1 x1 r1 => ?_
  cases r1 with
  | @lst b vs _ hb1 rr =>
  obtain ⟨ws, h3, h4⟩ := S1.pre _ _ hb1
  refine ⟨.inl ⟨rfl, _, .inl (.inl h3)⟩, ?_⟩
  refine (S1.ve g he qt (noTakes tk (G1 := G1) (B1 := B) (σ1 := σ) (e1 := env))).imp fun y H2 ⟨G2, rv, S2, x2, qu, _⟩ => ?_
  obtain ⟨ws2, h5, h6⟩ := S2.pre _ _ hb1
  have hlen := rr.length
  refine ⟨b, vs ++ ws2, y, rfl, rfl, h5, ?_, ?_⟩
  · have : sizeLine = 16777216 := by decide
    rw [List.length_append]
    omega
  · have S3 : DSt c G2 B A (upd H2 b (.lst (vs ++ ws2 ++ [y]))) σ env i v d (k + 1) := by
      refine ⟨S2.put (m := 0) hb1, S2.a, fun b' o eo => ?_, S2.dg, S2.dow, S2.vi⟩
      by_cases z : b' = b
      · subst z
        rw [hb1] at eo
        cases eo
        exact ⟨ws2 ++ [y], by rw [upd_same, List.append_assoc], by rw [List.length_append, List.length_singleton]; omega⟩
      · rw [upd_ne z]
        have hp := S2.pre b' o eo
        cases o with
        | lst us => obtain ⟨ws3, m1, m2⟩ := hp; exact ⟨ws3, m1, by omega⟩
        | _ => exact hp
    have x3 := x1.trans x2
    exact (hr.run X g G2 B A _ σ env v d (k + 1) D S3 qu (takes_ups tk x3 (BorS.refl _ _))).imp (EndsOf.up x3 (BorS.refl _ _))
theorem vd2_clr {i : Nat} {a : Expr} {f : Env → D → Option D} {r : List Stmt} {t : STt} {apos cpos pos : Pos} (ha : PTH c a i f) (hr : VSs c r t) (hb : notCall0 a = true := by rfl) (hline : (apos.endLine == cpos.line) = true := by rfl)
    (hsw : ∀ env : PySem.Env, swapsWith (.Call (.Attribute a "clear" apos) [] [] cpos) none pos.line env = pure false := by intros; rfl) :
    VD2 c i (.Expr (.Call (.Attribute a "clear" apos) [] [] cpos) pos :: r) (fun D env d _ => ∃ ds, f env d = some (.lst ds) ∧ t D env) := by
  constructor
  intro X g G B A H σ env v d k D S q tk
  obtain ⟨ds, e1, qu⟩ := q
  refine TUss.of (pss_cons (ps_expr (pe_bm0 PySem.F.plainAttrs_list PySem.F.slot_list_clear PySem.F.type_list_clear mt_clear (pe_tu (e := a)) (base_of hb) hline) (hsw X.env)) (pss_tu (st := r))) ?_
  refine ha.run X g G B A H σ env v d k _ D.xq _ S e1 tk fun x G1 H1 S1 x1 r1 => ?_
  cases r1 with
  | @lst b vs _ hb1 rr =>
  obtain ⟨ws, h3, h4⟩ := S1.pre _ _ hb1
  refine ⟨.inl ⟨rfl, _, .inl (.inl h3)⟩, b, _, rfl, rfl, h3, ?_⟩
  exact (hr.run X g G1 B _ σ env D (S1.put (m := 0) hb1) qu (takes_ups tk x1 (BorS.refl _ _))).imp (EndsOf.up x1 (BorS.refl _ _))
/-! ### the first part: reading -/
structure DS1 (c : Cfg) (G B A Gu HB H : Hp) (σ : St) (e0 env : Env) (i : Nat) (v : V) (d : D) : Prop where
  E0 : RepEnv c G B HB σ (backE e0 env)
  El : RepEnv c Gu HB H σ env
  len : e0.length = env.length
  a : Rep c.K c.w A v d
  aH : Same A HB
  dg : ∀ b vs, A b = some (.lst vs) → G b = none ∧ B b = none
  dow : ∀ (j : Nat) (d' : D) (b : Addr), (backE e0 env)[j]? = some (Slot.own d') → σ[j]? = some (some (V.ref b)) → A b = none
  vi : σ[i]? = some (some v)
  bi : env[i]? = some (.bor d)
structure VD1 (c : Cfg) (i : Nat) (sts : List Stmt) (u : EndsD → Env → Env → D → Prop) : Prop where
  run : ∀ (X : Cx), Good c X → ∀ (G B A Gu HB H : Hp) (σ : St) (e0 env : Env) (v : V) (d : D) (D : EndsD), DS1 c G B A Gu HB H σ e0 env i v d → u D e0 env d → Takes X (WXo c G B σ (backE e0 env) D.xq) → TUss X sts (EndsOf c G B σ (backE e0 env) D) σ H
theorem vd1_end {i : Nat} {r : List Stmt} {u : EndsD → Env → D → Nat → Prop} (h : VD2 c i r u) : VD1 c i r (fun D e0 env d => ∃ e1, backE e0 env = e1 ∧ u D e1 d 0) := by
  constructor
  intro X g G B A Gu HB H σ e0 env v d D S ⟨e1, ee, q⟩ tk
  subst ee
  refine h.run X g G B A H σ _ v d 0 D ⟨S.E0.up S.El.bh, S.a, fun b o e => ?_, S.dg, S.dow, S.vi⟩ q tk
  have := S.El.bh _ _ (S.aH _ _ e)
  cases o with
  | lst vs => exact ⟨[], by rw [this, List.append_nil], Nat.zero_le _⟩
  | _ => exact this
def midD (K0 : EndsD) (e0 : Env) (i : Nat) (d : D) (P : Env → Prop) : EndsD := { nx := fun e => e[i]? = some (.bor d) ∧ e.length = e0.length ∧ P e, rt := fun rv e => ∃ s, rv = .val s ∧ scal s = true ∧ e.length = e0.length ∧ K0.rt (.val s) (backE e0 e), bk := fun e => e.length = e0.length ∧ K0.bk (backE e0 e), ct := fun e => e.length = e0.length ∧ K0.ct (backE e0 e), xq := noX }
theorem vd1_cons {i : Nat} {s : Stmt} {r : List Stmt} {t : STt} {u : EndsD → Env → Env → D → Prop} (h1 : VS1 c s t) (h2 : VD1 c i r u) : VD1 c i (s :: r) (fun D e0 env d => t (midD D e0 i d (fun e => u D e0 e d)) env) := by
  constructor
  intro X g G B A Gu HB H σ e0 env v d D S q tk
  refine TUss.of (pss_cons (ps_tu (st := s)) (pss_tu (st := r))) ?_
  have hm : ∀ {σ' : St} {H' : Hp} {env' : Env} {G' : Hp}, RepEnv c G' HB H' σ' env' → BorS env env' σ σ' → env'.length = e0.length → RepEnv c G B HB σ' (backE e0 env') ∧ BorS (backE e0 env) (backE e0 env') σ σ' := fun E' b' hl => back_mk S.E0 S.len E' (by rw [hl]; exact S.len) b'
  refine TUs.imp ?_ (h1.run X g Gu HB H σ env _ S.El q (noTakes tk))
  refine ⟨fun σ' H' ⟨env', G', ⟨qi, ql, q'⟩, E', x', b'⟩ => ?_, fun v' H' ⟨rv, env', G', σ', ⟨s', es, hs, ql, q'⟩, E', x', b', rr⟩ => ?_, fun σ' H' ⟨env', G', ⟨ql, q'⟩, E', x', b'⟩ => ?_, fun σ' H' ⟨env', G', ⟨ql, q'⟩, E', x', b'⟩ => ?_⟩
  · obtain ⟨E0', bb⟩ := hm E' b' ql
    have S' : DS1 c G B A G' HB H' σ' e0 env' i v d := by
      refine ⟨E0', E', ql.symm, S.a, S.aH, S.dg, fun j d' b e1 e2 => ?_, ?_, qi⟩
      · obtain ⟨a, o, k1, k2, k3, k4, k5⟩ := E0'.own j d' e1
        rw [e2] at k1
        cases k1
        cases hA : A b with
        | none => rfl
        | some o' =>
          exfalso
          obtain ⟨s0, s1, z1, z2, z3⟩ := back_get e1
          cases s1 with
          | emp => cases z3
          | own _ => cases z3
          | val dd =>
            have : backS s0 (.val dd) = if scal dd = true then Slot.val dd else Slot.emp := rfl
            rw [this] at z3
            split at z3 <;> cases z3
          | bor dd =>
            obtain ⟨m1, m2⟩ := b' j dd z2
            have m3 : (backE e0 env)[j]? = some (.own d') := by
              have : s0 = .own d' := z3.symm
              unfold backE
              rw [List.getElem?_zipWith, z1, m1]
              show some s0 = _
              rw [this]
            have := S.dow j d' b m3 (by rw [← m2]; exact e2)
            rw [this] at hA
            cases hA
      · rw [(b' i d qi).2]; exact S.vi
    exact (h2.run X g G B A G' HB H' σ' e0 env' v d D S' q' (takes_ups tk (Ext.refl _ _) bb)).imp (EndsOf.up (Ext.refl _ _) bb)
  · obtain ⟨E0', bb⟩ := hm E' b' ql
    subst es
    exact ⟨.val s', backE e0 env', G, σ', q', E0'.up E'.bh, Ext.refl _ _, bb, Rep.scal (show Rep c.K c.w G' v' s' from rr) hs⟩
  · obtain ⟨E0', bb⟩ := hm E' b' ql
    exact ⟨backE e0 env', G, q', E0'.up E'.bh, Ext.refl _ _, bb⟩
  · obtain ⟨E0', bb⟩ := hm E' b' ql
    exact ⟨backE e0 env', G, q', E0'.up E'.bh, Ext.refl _ _, bb⟩
/-! ### the call -/
def rvD : RV → Option D
  | .fr d => some d
  | .val d => some d
  | _ => none
def sDeep (i : Nat) (ms : List Bool) (F : FSp) (ta : AT) (u : EndsD → Env → D → Nat → Prop) : STt := fun D env => ta env (fun rs e1 => ∃ ds e2, argsE ms e1 rs = some (ds, e2) ∧ Nat.blt i e2.length = true ∧ argO ms ds = true ∧ F ds (fun rv => ∃ d, rvD rv = some d ∧ ∃ e0, e2.set i .emp = e0 ∧ u D e0 d 0) (fun _ => False)) D.xq
theorem back_lend {e0 : Env} {i : Nat} {d : D} (h0 : e0[i]? = some .emp) : backE e0 ((lendE e0).set i (.bor d)) = e0 := by
  have hi : i < e0.length := (List.getElem?_eq_some_iff.mp h0).1
  refine List.ext_getElem? fun j => ?_
  unfold backE lendE
  rw [List.getElem?_zipWith]
  by_cases z : i = j
  · subst z
    rw [List.getElem?_set_self (by rw [List.length_map]; exact hi), h0]
    rfl
  · rw [List.getElem?_set_ne z, List.getElem?_map]
    cases h : e0[j]? with
    | none => rfl
    | some s => cases s <;> rfl
theorem vs_deep {i : Nat} {x fn : Str} {ms : List Bool} {F : FSp} {e : Expr} {es : List Expr} {ta : AT} {r : List Stmt} {u : EndsD → Env → D → Nat → Prop} {p p' cpos pos : Pos} (hx : StoC c i x) (f : FnC c fn ms F) (hg : GlC c fn) (ha : VA c (e :: es) ta) (hr : VD2 c i r u)
    (hdb : (fn == ("__debug__" : Str)) = false := by decide) (hn : (e :: es).all noStar = true := by rfl) (hs : ∀ env : PySem.Env, swapsWith (.Call (.Name fn p) (e :: es) [] cpos) (some (.Name x p')) pos.line env = pure false := by intros; rfl) (hc : c.calm = true := by rfl) :
    VSs c (.Assign [.Name x p'] (.Call (.Name fn p) (e :: es) [] cpos) pos :: r) (sDeep i ms F ta u) := by
  constructor
  intro X g G B H σ env D E q tk
  obtain ⟨fa, fd, ps, h, hm, hk, hb⟩ := f.ex
  have hn2 : noStar e = true ∧ es.all noStar = true := by
    rw [List.all_cons, Bool.and_eq_true] at hn
    exact hn
  rw [← g.prog, ← g.w, ← g.K, ← g.mg, ← g.base] at h
  refine TUss.of (pss_cons (ps_set g.nd (i := i) (by rw [g.N]; exact hx.1) (by rw [g.scope]; exact hx.2.1) (pe_callS (E := WE (WXo c G B σ env D.xq)) (sp := spV c ms F) h (g.room hc) (hg.gl g) (by rw [g.mg]; exact hm) (by rw [g.K]; exact hk) (by rw [g.K]; exact hb) (fun σ' => passAt tk σ') (pa_tu (es := e :: es)) hdb (star_cons hn2.1) (noStars hn2.2)) (hs X.env) (by rw [g.fn, g.scope]; exact hx.2.2)) (pss_tu (st := r))) ?_
  refine (ha.run X g G B H σ env _ D.xq E q tk).imp fun vs H1 ⟨rs, e1, G1, ⟨ds, e2, q1, hi2', ho, qF⟩, E1, x1, k1, r1⟩ => ?_
  have hi2 : i < e2.length := by simpa [Nat.blt_eq] using hi2'
  obtain ⟨G2, x2, E2, r2, k2⟩ := E1.args r1 q1
  refine ⟨tupsH G2, ds, _, _, (tupsH_same G2).trans E2.gh, r2.tO ho, qF, fun rv v G' H' pq res rr => ?_, fun x cls dx G' H' pq res rx => pq.elim⟩
  obtain ⟨d, hrv0, e0, he0, qu⟩ := pq
  have hrv : rv = .fr d ∨ rv = .val d := by
    cases rv with
    | fr d' => cases hrv0; exact .inl rfl
    | val d' => cases hrv0; exact .inr rfl
    | slot j => cases hrv0
  -- the region
  obtain ⟨A, aH, aR, fresh⟩ : ∃ A : Hp, Same A H' ∧ Rep c.K c.w A v d ∧ ∀ b o, A b = some o → isTupO o = false → H1 b = none := by
    have fr0 : ∀ b o, G' b = some o → isTupO o = false → H1 b = none := fun b o eo ht => by
      cases hb : H1 b with
      | none => rfl
      | some o1 =>
        exfalso
        have h1 := res.hh b o1 hb
        have h2 := res.gh b o eo
        rw [h1] at h2
        cases h2
        rcases res.fresh b (by rw [eo]; simp) with z | z
        · cases hz : tupsH G2 b with
          | none => exact z hz
          | some o2 =>
            have := res.gg b o2 hz
            rw [eo] at this
            cases this
            rw [tupsH_tup hz] at ht
            cases ht
        · rw [z o hb] at ht
          cases ht
    rcases hrv with rfl | rfl
    · obtain ⟨a, o, ev, h1, h2, h3, h4⟩ := rr
      subst ev
      refine ⟨upd G' a o, fun b u e => ?_, h4.rep h2, fun b u e ht => ?_⟩
      · by_cases z : b = a
        · subst z; rw [upd_same] at e; cases e; exact h3
        · rw [upd_ne z] at e; exact res.gh b u e
      · by_cases z : b = a
        · subst z; exact h1
        · rw [upd_ne z] at e; exact fr0 b u e ht
    · exact ⟨G', res.gh, rr, fr0⟩
  have E3 := E2.up res.hh
  have hσ : i < σ.length := by rw [E2.len]; exact hi2
  have h0i : e0[i]? = some .emp := by rw [← he0, List.getElem?_set_self hi2]
  have old : ∀ {j : Nat} {s : Slot}, e0[j]? = some s → s = .emp ∨ (j ≠ i ∧ e2[j]? = some s ∧ (σ.set i (some v))[j]? = σ[j]?) := fun {j s} ej => by
    by_cases z : j = i
    · subst z
      rw [h0i] at ej
      cases ej
      exact .inl rfl
    · rw [← he0, List.getElem?_set_ne (Ne.symm z)] at ej
      exact .inr ⟨z, ej, List.getElem?_set_ne (Ne.symm z)⟩
  have E4 : RepEnv c G2 B H' (σ.set i (some v)) e0 := by
    refine ⟨E3.gh, E3.bh, by rw [← he0, List.length_set, List.length_set]; exact E3.len, fun j d' e => ?_, fun j d' e => ?_, fun j d' e => ?_, fun j k d1 d2 b ej ek h1 h2 => ?_⟩
    · rcases old e with z | ⟨_, z, w⟩
      · cases z
      · rw [w]; exact E3.val j d' z
    · rcases old e with z | ⟨_, z, w⟩
      · cases z
      · rw [w]; exact E3.own j d' z
    · rcases old e with z | ⟨_, z, w⟩
      · cases z
      · rw [w]; exact E3.bor j d' z
    · rcases old ej with z | ⟨_, z, w⟩
      · cases z
      · rcases old ek with z' | ⟨_, z', w'⟩
        · cases z'
        · rw [w] at h1; rw [w'] at h2; exact E3.dis j k d1 d2 b z z' h1 h2
  have vget : (σ.set i (some v))[i]? = some (some v) := List.getElem?_set_self hσ
  have hdg : ∀ b vs, A b = some (.lst vs) → G2 b = none ∧ B b = none := fun b vs e => by
    have hf := fresh b _ e rfl
    exact ⟨E2.gh.free hf, E2.bh.free hf⟩
  have S : DSt c G2 B A H' (σ.set i (some v)) e0 i v d 0 := by
    refine ⟨E4, aR, fun b o eo => ?_, hdg, fun j d' b e1' e2' => ?_, vget⟩
    · have eq := aH b o eo
      cases o with
      | lst vs => exact ⟨[], by rw [eq, List.append_nil], Nat.le_refl _⟩
      | _ => exact eq
    · rcases old e1' with z | ⟨_, z, w⟩
      · cases z
      · rw [w] at e2'
        obtain ⟨a, o, k1, k2, k3, k4, k5⟩ := E2.own j d' z
        rw [e2'] at k1
        cases k1
        cases hA : A b with
        | none => rfl
        | some o' =>
          exfalso
          have h1 := aH b o' hA
          rw [res.hh _ _ k4] at h1
          cases h1
          have := fresh b _ hA k5.notTup
          rw [k4] at this
          cases this
  have x3 := x1.trans x2
  have bs : BorS env e0 σ (σ.set i (some v)) := by
    refine BorS.trans ((k1.trans k2).bors σ) ?_
    rw [← he0]
    exact bors_set hi2 (by simp)
  exact (hr.run X g G2 B A H' (σ.set i (some v)) e0 v d 0 D S qu (takes_ups tk x3 bs)).imp (EndsOf.up x3 bs)
/-- looked at, all lent -/
theorem vd2_look {i : Nat} {r : List Stmt} {u : EndsD → Env → Env → D → Prop} (hr : VD1 c i r u) : VD2 c i r (fun D env d k => k = 0 ∧ env[i]? = some .emp ∧ ∃ el, (lendE env).set i (.bor d) = el ∧ u D env el d) := by
  constructor
  intro X g G2 B A H' σ e0 v d k D S q tk
  obtain ⟨rfl, h0i, el, hel, qu⟩ := q
  have E4 := S.E
  have aR := S.a
  have aH : Same A H' := fun b o eo => by
    have hp := S.pre b o eo
    cases o with
    | lst vs =>
      obtain ⟨ws, h1, h2⟩ := hp
      have : ws = [] := List.length_eq_zero_iff.mp (Nat.le_zero.mp h2)
      rw [h1, this, List.append_nil]
    | _ => exact hp
  have hi2 : i < e0.length := (List.getElem?_eq_some_iff.mp h0i).1
  have hbk : backE e0 el = e0 := by rw [← hel]; exact back_lend h0i
  have hll : e0.length = el.length := by rw [← hel, List.length_set]; unfold lendE; rw [List.length_map]
  have hu : Same (uni G2 A) H' := uni_h E4.gh aH
  have eli : el[i]? = some (.bor d) := by rw [← hel, List.getElem?_set_self (by unfold lendE; rw [List.length_map]; exact hi2)]
  have lget : ∀ {j : Nat} {s : Slot}, el[j]? = some s → (j = i ∧ s = .bor d) ∨ (j ≠ i ∧ ∃ s0, e0[j]? = some s0 ∧ s = lendS s0) := fun {j s} ej => by
    by_cases z : j = i
    · subst z
      rw [eli] at ej
      cases ej
      exact .inl ⟨rfl, rfl⟩
    · rw [← hel, List.getElem?_set_ne (Ne.symm z)] at ej
      unfold lendE at ej
      rw [List.getElem?_map] at ej
      obtain ⟨s0, h1, h2⟩ := Option.map_eq_some_iff.mp ej
      exact .inr ⟨z, s0, h1, h2.symm⟩
  have El : RepEnv c (uni G2 A) H' H' σ el := by
    refine ⟨hu, Same.refl _, by rw [← hll]; exact E4.len, fun j d' e => ?_, fun j d' e => ?_, fun j d' e => ?_, fun j k d1 d2 b ej ek h1 h2 => ?_⟩
    · rcases lget e with ⟨_, z⟩ | ⟨_, s0, _, z⟩
      · cases z
      · cases s0 <;> cases z
    · rcases lget e with ⟨_, z⟩ | ⟨_, s0, _, z⟩
      · cases z
      · cases s0 <;> cases z
    · rcases lget e with ⟨rfl, z⟩ | ⟨_, s0, z0, z⟩
      · cases z
        exact ⟨v, S.vi, (aR.rd aH).mono (Same.refl _) (uni_r E4.gh aH)⟩
      · cases s0 with
        | emp => cases z
        | val d0 =>
          cases z
          obtain ⟨w, k1, k2⟩ := E4.val j _ z0
          exact ⟨w, k1, (k2.rd E4.gh).mono (Same.refl _) (uni_l G2 A)⟩
        | own d0 =>
          cases z
          obtain ⟨a, o, k1, k2, k3, k4, k5⟩ := E4.own j _ z0
          exact ⟨_, k1, (k5.rd k4).mono (Same.refl _) (uni_l G2 A)⟩
        | bor d0 =>
          cases z
          obtain ⟨w, k1, k2⟩ := E4.bor j _ z0
          exact ⟨w, k1, k2.mono E4.bh (uni_l G2 A)⟩
    · rcases lget ej with ⟨_, z⟩ | ⟨_, s0, _, z⟩
      · cases z
      · cases s0 <;> cases z
  have S1 : DS1 c G2 B A (uni G2 A) H' H' σ e0 el i v d := by
    refine ⟨by rw [hbk]; exact E4, El, hll, aR, aH, S.dg, fun j d' b e1' e2' => ?_, S.vi, eli⟩
    rw [hbk] at e1'
    exact S.dow j d' b e1' e2'
  have tk' : Takes X (WXo c G2 B σ (backE e0 el) D.xq) := by rw [hbk]; exact tk
  have z := hr.run X g G2 B A (uni G2 A) H' H' σ e0 el v d D S1 qu tk'
  rw [hbk] at z
  exact z
/-- y = e, kept -/
theorem vd2_set {i j : Nat} {y : Str} {e : Expr} {t : ET} {r : List Stmt} {u : EndsD → Env → D → Nat → Prop} {pos pos' : Pos} (hy : StoC c j y) (h : VE c e t) (hr : VD2 c i r u) (hij : Nat.beq i j = false := by decide) (hs : ∀ env : PySem.Env, swapsWith e (some (.Name y pos')) pos.line env = pure false := by intros; rfl) :
    VD2 c i (.Assign [.Name y pos'] e pos :: r) (fun D env d k => t env (fun rv e1 => ∃ e2, asgN j rv e1 = some e2 ∧ u D e2 d k) noX) := by
  constructor
  intro X g G B A H σ env v d k D S q tk
  have hne : i ≠ j := fun z => by rw [z, Nat.beq_refl] at hij; cases hij
  refine TUss.of (pss_cons (ps_set g.nd (i := j) (by rw [g.N]; exact hy.1) (by rw [g.scope]; exact hy.2.1) (pe_tu (e := e)) (hs X.env) (by rw [g.fn, g.scope]; exact hy.2.2)) (pss_tu (st := r))) ?_
  intro pins s I
  have hl : j < env.length := by
    rw [← S.E.len, I.len, g.N]
    exact (List.getElem?_eq_some_iff.mp hy.1).1
  have z := (h.run X g G (prot A H B) H σ env _ noX S.lend q (noTakes tk)) pins s I
  refine thn z fun w s' ⟨v2, H1, I1, rr0, rv, e1, G1, ⟨e2, qa, qn⟩, E1, x1, k1, r1⟩ => ⟨v2, H1, I1, rr0, ?_⟩
  obtain ⟨G2, x2, E2, b2⟩ := E1.asgN (by rw [k1.1]; exact hl) r1 qa
  have bs := BorS.trans (k1.bors σ) b2
  obtain ⟨S2, x3⟩ := S.backB E2 (x1.trans x2) bs (by rw [List.getElem?_set_ne (Ne.symm hne)]; exact S.vi)
  exact (hr.run X g G2 B A H1 (σ.set j (some v2)) e2 v d k D S2 qn (takes_ups tk x3 bs)).imp (EndsOf.up x3 bs)
/-! normal forms -/
theorem lend_nil : lendE [] = [] := rfl
theorem lend_cons (s : Slot) (e : Env) : lendE (s :: e) = lendS s :: lendE e := rfl
theorem lendS_own (d : D) : lendS (.own d) = .bor d := rfl
theorem lendS_val (d : D) : lendS (.val d) = .bor d := rfl
theorem lendS_bor (d : D) : lendS (.bor d) = .bor d := rfl
theorem lendS_emp : lendS .emp = .emp := rfl
theorem back_nil (e : Env) : backE [] e = [] := rfl
theorem back_cons (a b : Slot) (e0 e : Env) : backE (a :: e0) (b :: e) = backS a b :: backE e0 e := rfl
theorem backS_bor (s : Slot) (d : D) : backS s (.bor d) = s := rfl
theorem backS_own (s : Slot) (d : D) : backS s (.own d) = .emp := rfl
theorem backS_emp (s : Slot) : backS s .emp = .emp := rfl
theorem backS_int (s : Slot) (i : Int) : backS s (.val (.int i)) = .val (.int i) := rfl
theorem backS_str (s : Slot) (i : Str) : backS s (.val (.str i)) = .val (.str i) := rfl
theorem backS_bl (s : Slot) (i : Bool) : backS s (.val (.bl i)) = .val (.bl i) := rfl
theorem backS_non (s : Slot) : backS s (.val .non) = .val .non := rfl
theorem backS_tup (s : Slot) (l : List D) : backS s (.val (.tup l)) = .emp := rfl
theorem backS_lst (s : Slot) (l : List D) : backS s (.val (.lst l)) = .emp := rfl
/-! as written -/
def pN : Env → D → Option D := fun _ d => some d
def pIx (n : Nat) (f : Env → D → Option D) : Env → D → Option D := fun env d => (f env d).bind (atD n)
def pKy (ks : D) (f : Env → D → Option D) : Env → D → Option D := fun env d => (f env d).bind (keyD? ks)
def dCons (i : Nat) (t : STt) (u : EndsD → Env → Env → D → Prop) : EndsD → Env → Env → D → Prop := fun D e0 env d => t (midD D e0 i d (fun e => u D e0 e d)) env
def dLook (i : Nat) (u : EndsD → Env → Env → D → Prop) : EndsD → Env → D → Nat → Prop := fun D env d k => k = 0 ∧ env[i]? = some .emp ∧ ∃ el, (lendE env).set i (.bor d) = el ∧ u D env el d
def dSetK (j : Nat) (t : ET) (u : EndsD → Env → D → Nat → Prop) : EndsD → Env → D → Nat → Prop := fun D env d k => t env (fun rv e1 => ∃ e2, asgN j rv e1 = some e2 ∧ u D e2 d k) noX
def dAsgK (gt : GT) (t : ET) (u : EndsD → Env → D → Nat → Prop) : EndsD → Env → D → Nat → Prop := fun D env d k => t env (fun rv e1 => ∃ d2 e2, fz e1 rv = some (d2, e2) ∧ gt d2 e2 (fun e3 => u D e3 d k)) noX
def dEnd (u : EndsD → Env → D → Nat → Prop) : EndsD → Env → Env → D → Prop := fun D e0 env d => ∃ e1, backE e0 env = e1 ∧ u D e1 d 0
def dApp (f : Env → D → Option D) (t : ET) (u : EndsD → Env → D → Nat → Prop) : EndsD → Env → D → Nat → Prop := fun D env d k => ∃ ds, f env d = some (.lst ds) ∧ k < 1000 ∧ ds.length ≤ 1000000 ∧ t env (fun rv e1 => e1 = env ∧ u D env d (k + 1)) noX
def dClr (f : Env → D → Option D) (t : STt) : EndsD → Env → D → Nat → Prop := fun D env d _ => ∃ ds, f env d = some (.lst ds) ∧ t D env
def dRest (t : STt) : EndsD → Env → D → Nat → Prop := fun D env _ _ => t D env
theorem back_i {e0 e e1 : Env} (h : backE e0 e = e1) : backE e0 e = e1 := h
end VS

/-! VSX: the least of a list of data -/
namespace VS
open PySem PySem.Spec L2 PySem.W PyProof.Rows
def ltD (a b : D) : Bool := dataLt a.toPy b.toPy
def minL (d : D) (ds : List D) : D := ds.foldl (fun a y => if ltD y a = true then y else a) d
def bestI (d : D) (ds : List D) : Nat := argBest (fun i j => ltD ((d :: ds).getD i .non) ((d :: ds).getD j .non)) ds.length
def okMin (ds : List D) : Prop := D.okL 50 ds = true ∧ (∀ a ∈ ds, ∀ b ∈ ds, alike a.toPy b.toPy = true) ∧ ∀ a ∈ ds, a.toPy ≠ .none
def opMinD : List D → (RV → Prop) → Prop
  | [.lst (d :: ds)], Q => okMin (d :: ds) ∧ Q (.val (minL d ds))
  | _, _ => False
def rMinD (K : PySem.W.Frag) : List V → Hp → VK → Prop := fun vs H Q => ∃ (a : Addr) (xs : List V) (d : D) (ds : List D), vs = [V.ref a] ∧ SqL K H a xs ∧ DpAll K H xs (D.toPyL (d :: ds)) ∧ okMin (d :: ds) ∧ ∀ v, xs[bestI d ds]? = some v → Q v H
variable {c : Cfg}
/-! < of data -/
def opLtA : D → D → (RV → Prop) → Prop
  | .int i, .int j, Q => Q (.val (.bl (decide (i < j))))
  | .str i, .str j, Q => Q (.val (.bl (decide (i.cps.toList < j.cps.toList))))
  | .tup xs, .tup ys, Q => D.okD 50 (.tup xs) = true ∧ D.okD 50 (.tup ys) = true ∧ alike (D.tup xs).toPy (D.tup ys).toPy = true ∧ Q (.val (.bl (ltD (.tup xs) (.tup ys))))
  | _, _, _ => False
def rLtD (K : PySem.W.Frag) : R2 := fun x y H Q => ∃ d e : D, Dp K H x d.toPy ∧ Dp K H y e.toPy ∧ alike d.toPy e.toPy = true ∧ d.toPy ≠ .none ∧ d.toPy.depth ≤ 50 ∧ Q (.bl (ltD d e)) H
theorem op_ltD {X : Cx} (hu : X.A.units + 64 < cLine) : OpR X (compareOp .Lt) (rLtD X.K) := by
  intro pins s σ H x y v u Q I rx ry h
  obtain ⟨d, e, hd, he, hal, hn, hdp, q⟩ := h
  obtain ⟨as, r1⟩ := Dp.reads I d.toPy x v hd rx
  obtain ⟨bs, r2⟩ := Dp.reads I e.toPy y u he ry
  have := Nat.min_le_left d.toPy.depth e.toPy.depth
  exact rcLt_alike _ _ X.A s v u _ _ r1 r2 hal hn (by omega) _ _ _ _ ⟨.bl _, H, I, rfl, q⟩
theorem ltA_s : OpS2 c (fun x y H Q => ((rI0 (fun i j => .bl (decide (i < j))) x y H Q ∨ (fun x y H Q => ∃ i j, x = .str i ∧ y = .str j ∧ Q (.bl (decide (i.cps.toList < j.cps.toList))) H) x y H Q) ∨ rLtD c.K x y H Q)) opLtA := by
  intro G H x y da db P K s rx ry o f
  unfold opLtA at o
  split at o
  · cases rx; cases ry
    exact .inl (.inl ⟨_, _, rfl, rfl, f.val s o (.bl _)⟩)
  · cases rx; cases ry
    exact .inl (.inr ⟨_, _, rfl, rfl, f.val s o (.bl _)⟩)
  · obtain ⟨h1, h2, h3, p⟩ := o
    exact .inr ⟨_, _, RD.dp s rx h1, RD.dp s ry h2, h3, by simp [D.toPy], (D.ok_lay 50 _ h1).2, f.val s p (.bl _)⟩
  · exact o.elim
theorem r_ltA {X : Cx} (g : Good c X) : OpR X (compareOp .Lt) (fun x y H Q => ((rI0 (fun i j => .bl (decide (i < j))) x y H Q ∨ (fun x y H Q => ∃ i j, x = .str i ∧ y = .str j ∧ Q (.bl (decide (i.cps.toList < j.cps.toList))) H) x y H Q) ∨ rLtD c.K x y H Q)) := by
  have := op_ltD (X := X) (by have := g.roomH.un; omega)
  rw [g.K] at this
  exact (op_lt.or op_lt_str).or this
theorem vt_ltA {pos : Pos} {a b : Expr} {ta tb : ET} (ha : VE c a ta) (hb : VE c b tb) : VT c (.Compare a [.Lt] [b] pos) (tV (eOp2 opLtA ta tb)) := vt_op2 (fun X g => r_ltA g) ltA_s (nomark _) ha hb
theorem lt_le {a b : D} (h : ltD b a = false) : leD a b = true := by
  show sortLe (listOrd itemOrd) false (fun b : D => keyToks b.toPy) a b = true
  unfold sortLe
  show (!(lexLt itemOrd (keyToks b.toPy) (keyToks a.toPy))) = true
  have : lexLt itemOrd (keyToks b.toPy) (keyToks a.toPy) = false := h
  rw [this]; rfl
end VS

/-! VSY: the greatest of a dict's values -/
namespace VS
open PySem PySem.Spec L2 PyProof.Rows
def tMaxV (td : TE) : TE := fun σ H Q => td σ H fun x H1 => ∃ a kvs, ∃ ns : List Int, x = V.ref a ∧ Rd H1 a (.dK kvs) ∧ kvs.map (·.2) = ns.map V.int ∧ ns ≠ [] ∧ ∀ m, m ∈ ns → (∀ j ∈ ns, j ≤ m) → Q (.int m) H1
theorem pe_maxV {X : Cx} {o : Expr} {p pos apos mpos : Pos} {td : TE} (hc : X.calm = true) (hg : Gl X "max") (hm : X.mg "max" = none) (hd : PE X o td) (hbase : attributeBase o "values" X.env (eval o X.env) = eval o X.env) (hline : (apos.endLine == mpos.line) = true) :
    PE X (.Call (.Name "max" p) [.Call (.Attribute o "values" apos) [] [] mpos] [] pos) (tMaxV td) := by
  constructor
  intro pins s σ H Q I h
  refine wpAny_Call_Name_kw (ld_blt I hg hm (u := .builtin "max") (by decide +kernel) ?_ (by decide +kernel) (by decide +kernel))
  rw [show starEach [Expr.Call (.Attribute o "values" apos) [] [] mpos] X.env = [(false, eval (Expr.Call (.Attribute o "values" apos) [] [] mpos) X.env)] from rfl]
  refine PySem.callWith_builtin1 (wpAny_Call_method0_late hbase hline (thn (hd.run pins s σ H _ I h) fun v t ⟨x, H1, J, rx, a, kvs, ns, ex, ha, hv, hne, q⟩ => ?_))
  subst ex
  obtain rfl : v = Value.ref a := rx
  obtain ⟨_, hsys, us, rel, dof⟩ := (show ObjOk X.prog X.w H1 t.heap a (.dK kvs) from ha.ok J.hok)
  obtain ⟨ep, dat⟩ := dof.dictAt
  obtain ⟨ob, es, ho, hex, hdat, hko, hpr, hnd⟩ := id dat
  have isD : (∀ b, (Value.ref a) = Value.ref b → True) := fun _ _ => trivial
  refine ⟨"dict", "dict.values", F.plainAttrs_dict, F.slot_dict_values, F.type_dict_values, ⟨ob, ho, hex.1⟩, fun b eb => ?_, Calls.callWith_builtin rfl (PySem.evalArgs_none ?_)⟩
  · cases eb
    exact ⟨ob, ho, hex.2.1⟩
  have big : a < t.heap.objs.size := Heap.lt_size ho
  refine call_meetsIn F.slot_dict_values ⟨ob, ho, hex.1⟩ F.entry_dict_values (F.args_dict_values_1 _) (meets_dict_values (mixKind X.prog X.w) a hsys) ⟨⟨us, dof⟩, ?_⟩
  generalize hh1 : t.heap.push { cls := .type "dict_values", data := .fields #[.ref a] } = h1
  have keep1 : ∀ b u, t.heap.get? b = some u → h1.get? b = some u := fun b u eb => by rw [← hh1]; exact Heap.get?_push_of_some _ eb
  have size1 : h1.objs.size = t.heap.objs.size + 1 := by rw [← hh1]; exact Heap.size_push _ _
  have at1 : h1.DictAt (mixKind X.prog X.w) a us ep := dat.keep keep1
  have aLt : a < h1.objs.size := by rw [size1]; exact Nat.lt_succ_of_lt big
  have aNe : a ≠ h1.objs.size := Nat.ne_of_lt aLt
  have view1 : h1.IsValuesView t.heap.objs.size a := ⟨_, by rw [← hh1]; exact Heap.get?_push_size _ rfl, rfl, rfl⟩
  have lens : us.length = ns.length := by
    have e1 := congrArg List.length hv
    rw [List.length_map, List.length_map] at e1
    rw [← e1]; exact (KV.length rel).symm
  have pos1 : 0 < us.length := by rw [lens]; exact List.length_pos_iff.mpr hne
  have allI : ∀ (i : Nat) (y : Value), (∃ k, us[i]? = some (k, y)) → ∃ tk, y = Value.int (ns.getD i 0) tk := fun i y ⟨k, hk⟩ => by
    obtain ⟨x, z1, z2⟩ := KV.at' rel hk
    have z3 : (kvs.map (·.2))[i]? = some x := by rw [List.getElem?_map, z1] <;> rfl
    rw [hv, List.getElem?_map] at z3
    obtain ⟨j, hj, rfl⟩ := Option.map_eq_some_iff.mp z3
    obtain ⟨tk, z4⟩ := z2
    exact ⟨tk, by rw [z4, List.getD_eq_getElem?_getD, hj] <;> rfl⟩
  refine call_max_walk (wpAny_pyIter_values view1 at1 ?_)
  refine ⟨h1.objs.size, _, _, _, _, _, _, rfl, Walks.dictValues (knd := mixKind X.prog X.w) (A := X.A.in1) (J.ok.hd hc) h1.objs.size a aNe us ep, ⟨⟨_, Heap.get?_push_size _ rfl, rfl, rfl⟩, at1.keep fun b u eb => Heap.get?_push_of_some _ eb⟩, fun b hb => ?_, pos1,
    CmpOf.ints_gt (fun i => ns.getD i 0) allI, fun y h' tk hP hk => ?_⟩
  · have hs2 : (h1.push { cls := .type "dict_valueiterator", data := .fields #[.ref a, .int 0 0, .int us.length 0, .int ep 0] }).objs.size = h1.objs.size + 1 := Heap.size_push _ _
    show b < (h1.push { cls := .type "dict_valueiterator", data := .fields #[.ref a, .int 0 0, .int us.length 0, .int ep 0] }).objs.size
    rw [hs2]
    simp only [List.mem_cons, List.not_mem_nil, or_false] at hb
    rcases hb with rfl | rfl
    · exact Nat.lt_succ_self _
    · exact Nat.lt_succ_of_lt aLt
  · obtain ⟨tk', rfl⟩ := allI _ y hP
    obtain ⟨c1, c2⟩ := argBest_gt (fun i => ns.getD i 0) (us.length - 1)
    have inb : argBest (fun i j => decide (ns.getD i 0 > ns.getD j 0)) (us.length - 1) < ns.length := by omega
    refine ⟨.int _, H1, J.kept (t' := tk) fun b u eb => hk b u (fun hmem => ?_) (Heap.get?_push_of_some _ (keep1 b u eb)), ⟨tk', rfl⟩, q _ ?_ fun j hj => ?_⟩
    · have e1 := List.mem_singleton.mp hmem
      have e2 := Heap.lt_size eb
      rw [e1, size1] at e2
      exact absurd e2 (Nat.not_lt.mpr (Nat.le_succ _))
    · rw [List.getD_eq_getElem?_getD, List.getElem?_eq_getElem inb]
      exact List.getElem_mem inb
    · obtain ⟨i, hi, ei⟩ := List.mem_iff_getElem.mp hj
      have e2 : ns.getD i 0 = j := by
        rw [List.getD_eq_getElem?_getD, List.getElem?_eq_getElem hi, ← ei] <;> rfl
      rw [← e2]
      exact c2 i (by omega)
variable {c : Cfg} {pos : Pos}
/-- max(x.values()), the values whole numbers -/
def eMaxV (ta : ET) : ET := fun env Q Xq => ta env (fun ra e1 => ∃ kvs, ∃ ns : List Int, rd e1 ra = some (.dic false kvs) ∧ kvs.map (·.2) = ns.map D.int ∧ ns ≠ [] ∧ ∀ m, m ∈ ns → (∀ j ∈ ns, j ≤ m) → Q (.val (.int m)) e1) Xq
theorem repK_vals {K : PySem.W.Frag} {w : World} {G : Hp} : ∀ {vs : List (Key × V)} {ds : List (D × D)}, RepK K w G vs ds → RepL K w G (vs.map (·.2)) (ds.map (·.2))
  | _, _, .nil => .nil
  | _, _, .cons h r => .cons h (repK_vals r)
theorem ve_maxV {a : Expr} {ta : ET} {p apos mpos : Pos} (b : BltC c "max" (.builtin "max")) (ha : VE c a ta) (hb : notCall0 a = true := by rfl) (hline : (apos.endLine == mpos.line) = true := by rfl) (hc : c.calm = true := by rfl) :
    VE c (.Call (.Name "max" p) [.Call (.Attribute a "values" apos) [] [] mpos] [] pos) (eMaxV ta) := by
  constructor
  intro X g G B H σ env Q Xq E q tk
  refine TU.of (pe_maxV (g.calm hc) (b.gl.gl g) (by rw [g.mg]; exact b.mg) (pe_tu (e := a)) (base_of hb) hline) ?_
  refine (ha.run X g G B H σ env _ Xq E q tk).imp fun x H1 ⟨ra, e1, G1, ⟨kvs, ns, q1, q2, q3, q4⟩, E1, x1, k1, r1⟩ => ?_
  obtain ⟨a, kv, rfl, hr, rr⟩ := E1.rdR r1 q1
  have hv : kv.map (·.2) = ns.map V.int := repL_intsI (by rw [← q2]; exact repK_vals rr)
  exact ⟨a, kv, ns, rfl, hr, hv, q3, fun m h1 h2 => ⟨_, e1, G1, q4 m h1 h2, E1, x1, k1, .int m⟩⟩
/-! list(x.values()) -/
def tListV (td : TE) : TE := fun σ H Q => td σ H fun x H1 => ∃ a kvs, x = V.ref a ∧ Rd H1 a (.dK kvs) ∧ ∀ l, H1 l = none → Q (.ref l) (upd H1 l (.lst (kvs.map (·.2))))
theorem kv_vals : ∀ {kvs : List (Key × V)} {us : List (Key × Value)}, KV kvs us → Vals (kvs.map (·.2)) (us.map (·.2)) := by
  intro kvs us h
  unfold KV at h
  induction h with
  | nil => exact .nil
  | cons q _ ih => exact .cons q.2 ih
theorem pe_listV {X : Cx} {o : Expr} {p pos apos mpos : Pos} {td : TE} (hc : X.calm = true) (hg : Gl X "list") (hm : X.mg "list" = none) (hd : PE X o td) (hbase : attributeBase o "values" X.env (eval o X.env) = eval o X.env) (hline : (apos.endLine == mpos.line) = true) :
    PE X (.Call (.Name "list" p) [.Call (.Attribute o "values" apos) [] [] mpos] [] pos) (tListV td) := by
  constructor
  intro pins s σ H Q I h
  refine wpAny_Call_Name_kw (ld_blt I hg hm (u := .type "list") (by decide +kernel) ?_ (by decide +kernel) (by decide +kernel))
  refine PyProof.Rows.callWith_type1 ?_ (by rfl) rfl
  rw [show starEach [Expr.Call (.Attribute o "values" apos) [] [] mpos] X.env = (false, eval (Expr.Call (.Attribute o "values" apos) [] [] mpos) X.env) :: starEach [] X.env from rfl]
  refine Calls.spliced_cons ?_
  refine wpAny_Call_method0_late hbase hline (thn (hd.run pins s σ H _ I h) fun v t ⟨x, H1, J, rx, a, kvs, ex, ha, q⟩ => ?_)
  subst ex
  obtain rfl : v = Value.ref a := rx
  obtain ⟨hz, hsys, us, rel, dof⟩ := (show ObjOk X.prog X.w H1 t.heap a (.dK kvs) from ha.ok J.hok)
  obtain ⟨ep, dat⟩ := dof.dictAt
  obtain ⟨ob, es, ho, hex, hdat, hko, hpr, hnd⟩ := id dat
  refine ⟨"dict", "dict.values", F.plainAttrs_dict, F.slot_dict_values, F.type_dict_values, ⟨ob, ho, hex.1⟩, fun b eb => ?_, Calls.callWith_builtin rfl (PySem.evalArgs_none ?_)⟩
  · cases eb
    exact ⟨ob, ho, hex.2.1⟩
  refine call_meetsIn F.slot_dict_values ⟨ob, ho, hex.1⟩ F.entry_dict_values (F.args_dict_values_1 _) (meets_dict_values (mixKind X.prog X.w) a hsys) ⟨⟨us, dof⟩, ?_⟩
  generalize hh1 : t.heap.push { cls := .type "dict_values", data := .fields #[.ref a] } = h1
  have keep1 : ∀ b u, t.heap.get? b = some u → h1.get? b = some u := fun b u eb => by rw [← hh1]; exact Heap.get?_push_of_some _ eb
  have at1 : h1.DictAt (mixKind X.prog X.w) a us ep := dat.keep keep1
  have view1 : h1.IsValuesView t.heap.objs.size a := ⟨_, by rw [← hh1]; exact Heap.get?_push_size _ rfl, rfl, rfl⟩
  have J1 : Inv X pins σ H1 { t with heap := h1 } := J.kept (t' := t.toks) keep1
  refine Calls.spliced_nil ?_
  have hlu : us.length ≤ sizeLine := by rw [← KV.length rel]; exact hz
  refine PySem.W.kdl_call (PySem.W.kdl_values (knd := mixKind X.prog X.w) (r := t.heap.objs.size) (d := a) (kvs := us) (ep := ep)) (J.ok.hd hc) ⟨view1, at1⟩ hlu fun h' tk acc c0 hk hl hacc => ?_
  have hout : acc.toList = us.map (·.2) := by
    refine PySem.W.kdl_vals_eq _ ?_ ?_
    · rw [Array.length_toList]; exact hacc.1
    · exact fun j y hj => hacc.2 j y (by simpa using hj)
  refine ⟨.ref _, upd H1 h1.objs.size (.lst (kvs.map (·.2))), J1.laid (t' := tk) hk (Nat.le_refl _) ⟨by rw [List.length_map]; exact hz, acc.toList, c0, by rw [hout]; exact kv_vals rel, ?_⟩, rfl, q _ J1.fresh⟩
  rw [hl]
/-- list(x.values()) -/
def eListV (ta : ET) : ET := fun env Q Xq => ta env (fun ra e1 => ∃ kvs, rd e1 ra = some (.dic false kvs) ∧ Q (.fr (.lst (kvs.map (·.2)))) e1) Xq
theorem ve_listV {a : Expr} {ta : ET} {p apos mpos : Pos} (b : BltC c "list" (.type "list")) (ha : VE c a ta) (hb : notCall0 a = true := by rfl) (hline : (apos.endLine == mpos.line) = true := by rfl) (hc : c.calm = true := by rfl) :
    VE c (.Call (.Name "list" p) [.Call (.Attribute a "values" apos) [] [] mpos] [] pos) (eListV ta) := by
  constructor
  intro X g G B H σ env Q Xq E q tk
  refine TU.of (pe_listV (g.calm hc) (b.gl.gl g) (by rw [g.mg]; exact b.mg) (pe_tu (e := a)) (base_of hb) hline) ?_
  refine (ha.run X g G B H σ env _ Xq E q tk).imp fun x H1 ⟨ra, e1, G1, ⟨kvs, q1, q2⟩, E1, x1, k1, r1⟩ => ?_
  obtain ⟨a, kv, rfl, hr, rr⟩ := E1.rdR r1 q1
  have f : Fin c G1 H1 (fun r => Q r e1) (VQ c G B σ env Q) := fun rv v G' H' pq res rr => ⟨rv, e1, G', pq, E1.go res, x1.trans (res.ext E1.bh), k1, E1.goR res rr⟩
  exact ⟨a, kv, rfl, hr, f.lst E1.gh q2 (repK_vals rr)⟩
/-! str.find -/
def opFind : D → List D → (RV → Prop) → Prop
  | .str a, [.str b], Q => Q (.val (.int (Txt.find a b)))
  | _, _, _ => False
def rFind : V → List V → Hp → VK → Prop := fun x xs H Q => ∃ a b, x = .str a ∧ xs = [.str b] ∧ Q (.int (Txt.find a b)) H
end VS

/-! WA: circles told -/
namespace VN
open PySem VS PySem.W
/-! carpets ordered -/
theorem alikeAll_strs : ∀ (xs ys : List Str), xs.length = ys.length → alikeAll (D.toPyL (xs.map D.str)) (D.toPyL (ys.map D.str)) = true
  | [], [], _ => by simp [D.toPyL, alikeAll]
  | x :: xs, y :: ys, h => by simp [D.toPyL, D.toPy, alikeAll, alike, alikeAll_strs xs ys (by simpa using h)]
  | [], _ :: _, h => by simp at h
  | _ :: _, [], h => by simp at h
theorem cpD_strs (n : Nat) (f : Cp) : cpD n f = .tup (((List.range n).map fun r => rowS n (f (r : Nat))).map D.str) := by unfold cpD; rw [List.map_map]; rfl
theorem alike_cp {n : Nat} {f g : Cp} : alike (cpD n f).toPy (cpD n g).toPy = true := by
  rw [cpD_strs, cpD_strs]
  simp only [D.toPy, alike]
  exact alikeAll_strs _ _ (by simp)
def prD (n : Nat) (f : Cp) (m : Mv) : D := .tup [cpD n f, dM m]
/-- a least one -/
def Least (n : Nat) (f : Cp) (m : Mv) : Prop := m.ok n ∧ ∀ m' : Mv, m'.ok n → ltD (cpD n (movF n m' f)) (cpD n (movF n m f)) = false
def lfF (n : Nat) (f : Cp) : D → D := fun d => prD n (movF n (unM d) f) (unM d)
theorem mov_cp {n : Nat} (hn : 0 < n) {a b : Mv} (ha : a.ok n) (hb : b.ok n) (f : Cp) : cpD n (movF n (thn n a b) f) = cpD n (movF n b (movF n a f)) := cp_ext.mpr (mov_thn hn ha hb f)
end VN

/-! WB: rounds -/
namespace VN
open PySem VS PySem.W
def itP (n : Nat) (m : Mv) : Nat → Pl → Pl
  | 0, p => p
  | k + 1, p => ledP n (itP n m k p) m
def perP (n : Nat) (m : Mv) (p : Pl) : Nat := ((List.range (4 * n)).find? fun k => decide (itP n m (k + 1) p = p)).getD 0 + 1
def orbL (n : Nat) (m : Mv) (p : Pl) : List Pl := (List.range (perP n m p)).map fun k => itP n m k p
noncomputable def rndL (n : Nat) (m : Mv) : List (List Pl) := (rootsL n [m]).map (orbL n m)
theorem okL_LP {n : Nat} {R : List (List Pl)} : D.okL (n + 2) (R.map dLP) = true := okL_map fun p => ok_lst okL_P
/-! the order of rounds -/
theorem alike_LP : ∀ a b : List Pl, alikeAll (D.toPyL (a.map dP)) (D.toPyL (b.map dP)) = true
  | [], [] => by simp [D.toPyL, alikeAll]
  | [], b :: bs => by simp [D.toPyL, alikeAll]
  | a :: as, [] => by simp [D.toPyL, alikeAll]
  | a :: as, b :: bs => by
    have h1 := alike_P a b
    simp only [List.map_cons, D.toPyL, alikeAll, alike_LP as bs, h1, Bool.and_self]
theorem ltP_lt {a b : Pl} {r s : List Pl} (h : ltP a b) : leD (dLP (a :: r)) (dLP (b :: s)) = true := by
  show (!dataLt (.list (D.toPyL ((b :: s).map dP))) (.list (D.toPyL ((a :: r).map dP)))) = true
  simp only [List.map_cons, D.toPyL]
  rw [dataLt_list, dataLt_cons (alike_P b a)]
  have hne : PyData.eqv (dP b).toPy (dP a).toPy = false := by
    cases e : PyData.eqv (dP b).toPy (dP a).toPy with
    | false => rfl
    | true =>
      have := (D.eqv_iff 60 60 (dP b) (dP a) rfl rfl).mp e
      have := dP_inj _ _ this
      subst this
      exact absurd h (ltP_irrefl _)
  rw [hne, if_neg (by decide)]
  have h2 := leD_P a b
  rw [decide_eq_true (leP_lt.mpr (.inr h))] at h2
  exact h2
theorem sortOk_LP (R : List (List Pl)) : sortOk (R.map dLP) := ⟨okL_LP, fun d hd e he => by
  obtain ⟨a, _, rfl⟩ := List.mem_map.mp hd
  obtain ⟨b, _, rfl⟩ := List.mem_map.mp he
  simp only [D.toPy, alike]
  exact alike_LP a b, .inr fun d hd => by
  rw [List.map_map] at hd
  obtain ⟨a, _, rfl⟩ := List.mem_map.mp hd
  exact ⟨by simp [D.toPy], fun xs e => by simp [D.toPy] at e⟩⟩
def dmF (n : Int) : D → D
  | .int k => dPl (k / n) (k % n)
  | d => d
theorem dm_row (n r : Nat) (hn : 0 < n) : (List.range n).map (fun c : Nat => (((r * n + c : Nat) : Int) / n, ((r * n + c : Nat) : Int) % n)) = (List.range n).map fun c : Nat => ((r : Int), (c : Int)) := by
  refine List.map_congr_left fun c hc => ?_
  have hc := List.mem_range.mp hc
  have e : ((r * n + c : Nat) : Int) = c + n * r := by push_cast; rw [Int.mul_comm]; omega
  rw [e]
  refine Prod.ext ?_ ?_
  · show ((c : Int) + n * r) / n = r
    rw [Int.add_mul_ediv_left _ _ (by omega), Int.ediv_eq_zero_of_lt (by omega) (by omega), Int.zero_add]
  · show ((c : Int) + n * r) % n = c
    rw [Int.add_mul_emod_self_left, Int.emod_eq_of_lt (by omega) (by omega)]
theorem dm_all (n : Nat) (hn : 0 < n) : ∀ k : Nat, (List.range (k * n)).map (fun q : Nat => ((q : Int) / n, (q : Int) % n)) = (List.range k).flatMap fun r : Nat => (List.range n).map fun c : Nat => (((r : Nat) : Int), ((c : Nat) : Int))
  | 0 => by simp
  | k + 1 => by
    rw [List.range_succ, List.flatMap_append, ← dm_all n hn k, Nat.add_mul, Nat.one_mul, List.range_add, List.map_append, List.map_map]
    congr 1
    rw [List.flatMap_cons, List.flatMap_nil, List.append_nil]
    exact dm_row n k hn
theorem dm_map (n : Nat) (hn : 0 < n) : (rgD 0 (n * n)).map (dmF n) = (allP n).map dP := by
  have h := dm_all n hn n
  unfold allP
  rw [← h]
  unfold rgD
  rw [List.map_map, List.map_map]
  refine List.map_congr_left fun q _ => ?_
  show dPl ((0 + (q : Int)) / n) ((0 + (q : Int)) % n) = dP (((q : Int) / n, (q : Int) % n))
  rw [Int.zero_add]
end VN

/-! VSZ: the keys of our own dict, walked: the dict is shared from then on -/
namespace VS
open PySem PySem.Spec L2 PyProof.Rows
variable {c : Cfg} {G B H : Hp} {σ : L2.St} {env : Env}
theorem RepEnv.lockK (E : RepEnv c G B H σ env) {i : Nat} {d : D} {a : Addr} {o u : HO} (ei : env[i]? = some (.own d)) (k1 : σ[i]? = some (some (V.ref a))) (hG : G a = none) (hB : B a = none) (hH : H a = some o) (r : Rep c.K c.w (upd G a u) (.ref a) d) : RepEnv c (upd G a u) B (upd H a u) σ (env.set i (.val d)) := by
  have hi : i < env.length := (List.getElem?_eq_some_iff.mp ei).1
  have old : ∀ {j : Nat} {s : Slot}, (env.set i (.val d))[j]? = some s → (j = i ∧ s = .val d) ∨ (j ≠ i ∧ env[j]? = some s) := fun {j s} ej => by
    by_cases z : j = i
    · subst z
      rw [List.getElem?_set_self hi] at ej
      exact .inl ⟨rfl, (Option.some.inj ej).symm⟩
    · rw [List.getElem?_set_ne (Ne.symm z)] at ej
      exact .inr ⟨z, ej⟩
  refine ⟨fun b w q => ?_, fun b w q => ?_, by rw [List.length_set]; exact E.len, fun j d' e => ?_, fun j d' e => ?_, fun j d' e => ?_, fun j k d1 d2 b e1 e2 h1 h2 => ?_⟩
  · by_cases z : b = a
    · rw [z] at q ⊢
      rw [upd_same] at q ⊢
      exact q
    · rw [upd_ne z] at q ⊢
      exact E.gh b w q
  · rw [upd_ne (ne_of_none q hB)]
    exact E.bh b w q
  · rcases old e with ⟨rfl, es⟩ | ⟨ne, e'⟩
    · cases es
      exact ⟨_, k1, r⟩
    · obtain ⟨v, m1, m2⟩ := E.val j d' e'
      exact ⟨v, m1, m2.mono (same_new hG)⟩
  · rcases old e with ⟨rfl, es⟩ | ⟨ne, e'⟩
    · cases es
    · obtain ⟨b, o', m1, m2, m3, m4, m5⟩ := E.own j d' e'
      have nb : b ≠ a := fun z => ne (E.dis j i d' d a e' ei (by rw [← z]; exact m1) k1)
      exact ⟨b, o', m1, by rw [upd_ne nb]; exact m2, m3, by rw [upd_ne nb]; exact m4, m5.mono (same_new hG)⟩
  · rcases old e with ⟨rfl, es⟩ | ⟨ne, e'⟩
    · cases es
    · obtain ⟨v, m1, m2⟩ := E.bor j d' e'
      exact ⟨v, m1, m2.mono (Same.refl _) (same_new hG)⟩
  · rcases old e1 with ⟨rfl, es⟩ | ⟨ne1, e1'⟩
    · cases es
    · rcases old e2 with ⟨rfl, es⟩ | ⟨ne2, e2'⟩
      · cases es
      · exact E.dis j k d1 d2 b e1' e2' h1 h2
theorem rep_key {K : PySem.W.Frag} {w : World} : ∀ k : Key, Rep K w G (kV k) (keyD k)
  | .inl i => .int i
  | .inr x => .str x
theorem RepK.at {K : PySem.W.Frag} {w : World} {vs : List (Key × V)} {ds : List (D × D)} (h : RepK K w G vs ds) {i : Nat} {d : D} (e : (ds.map (·.1))[i]? = some d) : ∃ k v, vs[i]? = some (k, v) ∧ d = keyD k := by
  induction vs generalizing ds i with
  | nil => cases h; cases e
  | cons p vs ih =>
    cases h with
    | @cons k v _ d1 ds1 h r =>
      cases i with
      | zero =>
        have e : some (keyD k) = some d := e
        exact ⟨k, v, rfl, (Option.some.inj e).symm⟩
      | succ i => exact ih r e
theorem walks_dk {a : Addr} {od : Obj} {kv : List (Key × V)} {ds : List (D × D)} (hg : G a = some (.frz od (.dK kv))) (r : RepK c.K c.w G kv ds) : Walks c G B (Itk a od kv) (ds.map (·.1)) := by
  refine ⟨fun i d G' H' e s1 s2 s3 => ?_, fun G' H' s1 s2 s3 => ⟨s1 _ _ (s3 _ _ hg), by rw [List.length_map, r.length]; exact Nat.le_refl _⟩⟩
  obtain ⟨k, v, hk, rfl⟩ := r.at e
  refine ⟨⟨s1 _ _ (s3 _ _ hg), (List.getElem?_eq_some_iff.mp hk).1⟩, fun x H'' y => ?_⟩
  obtain ⟨rfl, k', v', e1, rfl⟩ := y
  rw [hk] at e1
  cases e1
  exact ⟨G', Res.refl s1, rep_key k⟩
def iDk (i : Nat) : IT := fun env Q _ => ∃ kvs, env[i]? = some (.own (.dic false kvs)) ∧ Q (kvs.map (·.1)) none (env.set i (.val (.dic false kvs)))
theorem vi_dk {tg e : Expr} {i : Nat} (h : VE c e (eVar i)) : VI c tg e (iDk i) := by
  constructor
  intro X g G B H σ env Q Xq E ⟨kvs, ei, q⟩ tk pins s I
  refine thn ((h.run X g G B H σ env (fun rv e1 => rv = .slot i ∧ e1 = env) Xq E (by unfold eVar; rw [ei]; exact ⟨rfl, rfl⟩) tk) pins s I) fun u s1 ⟨v, H1, I1, ru, rv, e1, G1, q1, E1, x1, k1, r1⟩ => ?_
  obtain ⟨rfl, rfl⟩ := q1
  obtain ⟨a, o, m1, m2, m3, m4, kv, rfl, rr⟩ := E1.own i _ ei
  have k0 := r1.1
  rw [m1] at k0
  have ev : V.ref a = v := Option.some.inj (Option.some.inj k0)
  subst ev
  obtain rfl : u = Value.ref a := ru
  obtain ⟨od, I2⟩ := I1.lock m4 trivial
  have hF : (upd H1 a (.frz od (.dK kv))) a = some (.frz od (.dK kv)) := upd_same
  obtain ⟨hs, hgd, hx, es, ep, vs, hdt, hsz, kvv, hm⟩ := I2.frzK hF
  have hG2 : (upd G1 a (.frz od (.dK kv))) a = some (.frz od (.dK kv)) := upd_same
  have rr2 := rr.mono (same_new (o := .frz od (.dK kv)) m2)
  refine iter_keys hs hgd hx hdt (pi_one (tk := s1.toks) I2 _ (turn_keys (d := a) (kvs := kv) _ hdt) ⟨_, Heap.get?_push_size _ rfl, rfl, ?_⟩ ?_)
  · rw [hsz] <;> rfl
  · refine ⟨_, none, _, _, upd G1 a (.frz od (.dK kv)), B, q, E1.lockK ei m1 m2 m3 m4 (.dicK (.inr ⟨od, hG2⟩) rr2), x1.trans ⟨same_new m2, fun p hp => ?_⟩, ⟨List.length_set, fun j d' e => ?_⟩, .no, walks_dk hG2 rr2⟩
    · by_cases z : p = a
      · exact .inr (by rw [z]; exact Nu.of m3)
      · rw [upd_ne z] at hp
        exact .inl hp
    · by_cases z : j = i
      · subst z
        rw [List.getElem?_set_self (List.getElem?_eq_some_iff.mp ei).1] at e
        cases e
      · rw [List.getElem?_set_ne (Ne.symm z)] at e
        exact e
end VS

/-! WC: the colours of a circle counted; mended carpets -/
namespace VN
open PySem VS PySem.W
section
variable {α : Type} [DecidableEq α] {k : α → D}
theorem kvA_cong {v v' : α → D} {F : List α} (h : ∀ a ∈ F, v' a = v a) : kvA k v F = kvA k v' F := by
  unfold kvA
  exact List.map_congr_left fun a ha => by rw [h a ha]
theorem kvA_putU (hk : ∀ a b, k a = k b → a = b) {v v' : α → D} {m : α} {F : List α} (h : m ∈ F) (hv : ∀ a, a ≠ m → v' a = v a) : dput (kvA k v F) (k m) (v' m) = kvA k v' F := by
  unfold dput
  rw [if_pos]
  · unfold kvA
    rw [List.map_map]
    refine List.map_congr_left fun a ha => ?_
    show (if k a = k m then (k a, v' m) else (k a, v a)) = (k a, v' a)
    split
    · rename_i e; rw [hk _ _ e]
    · rename_i e; rw [hv a fun z => e (by rw [z])]
  · rw [List.any_eq_true]
    exact ⟨(k m, v m), List.mem_map.mpr ⟨m, h, rfl⟩, decide_eq_true rfl⟩
end
def colsL (f : Cp) (C : List Pl) : List Nat := C.map fun p => f p.1 p.2
def cntD (cs : List Nat) : Nat → D := fun x => .int (cs.count x)
structure HadI (cs F : List Nat) : Prop where
  nd : F.Nodup
  mem : ∀ x, x ∈ F ↔ x ∈ cs
theorem HadI.zero : HadI [] [] := ⟨by simp, by simp⟩
theorem sgnI : ∀ a b : Nat, sgn a = sgn b → a = b := fun a b h => sgn_inj h
theorem HadI.put {cs F : List Nat} (h : HadI cs F) (x : Nat) : ∃ F', HadI (cs ++ [x]) F' ∧ F'.length ≤ F.length + 1 ∧ dput (kvA sgn (cntD cs) F) (sgn x) (.int ((cs.count x : Int) + 1)) = kvA sgn (cntD (cs ++ [x])) F' := by
  have hx : D.int ((cs.count x : Int) + 1) = cntD (cs ++ [x]) x := by
    unfold cntD
    rw [List.count_append, List.count_singleton_self]
    rfl
  have hv : ∀ a, a ≠ x → cntD (cs ++ [x]) a = cntD cs a := fun a ha => by
    unfold cntD
    rw [List.count_append, List.count_eq_zero_of_not_mem (a := a) (l := [x]) (by simpa using ha)]
    rfl
  rw [hx]
  by_cases hin : x ∈ F
  · refine ⟨F, ⟨h.nd, fun y => ?_⟩, by omega, kvA_putU sgnI hin hv⟩
    rw [List.mem_append, List.mem_singleton, ← h.mem]
    exact ⟨.inl, fun z => z.elim id fun e => e ▸ hin⟩
  · refine ⟨F ++ [x], ⟨?_, fun y => ?_⟩, by simp, ?_⟩
    · rw [List.nodup_append]
      exact ⟨h.nd, by simp, fun a ha b hb e => hin (by rw [List.mem_singleton] at hb; rw [← hb, ← e]; exact ha)⟩
    · rw [List.mem_append, List.mem_append, h.mem]
    · rw [kvA_cong (v := cntD cs) (v' := cntD (cs ++ [x])) fun a ha => hv a fun e => hin (e ▸ ha)]
      exact kvA_put sgnI hin
theorem get_had {cs F : List Nat} {x : Nat} {Q : RV → Prop} (h : HadI cs F) (q : Q (.val (.int (cs.count x : Int)))) : opGet (.dic false (kvA sgn (cntD cs) F)) [sgn x, .int 0] Q := by
  refine ⟨rfl, rfl, ?_⟩
  have e : (dget (kvA sgn (cntD cs) F) (sgn x)).getD (.int 0) = .int (cs.count x : Int) := by
    rw [kvA_get sgnI]
    by_cases hx : x ∈ F
    · rw [if_pos hx]; rfl
    · rw [if_neg hx, List.count_eq_zero_of_not_mem fun z => hx ((h.mem x).mpr z)]; rfl
  rw [e]
  exact q
theorem had_at {cs F : List Nat} {x : Nat} (h : x ∈ F) : dget (kvA sgn (cntD cs) F) (sgn x) = some (.int (cs.count x : Int)) := by
  rw [kvA_get sgnI, if_pos h]; rfl
theorem had_vals {cs F : List Nat} : (kvA sgn (cntD cs) F).map (·.2) = (F.map fun x => (cs.count x : Int)).map D.int := by
  unfold kvA
  rw [List.map_map, List.map_map]
  rfl
theorem had_vals_ne {cs F : List Nat} (h : HadI cs F) (hc : cs ≠ []) : (F.map fun x => (cs.count x : Int)) ≠ [] := by
  obtain ⟨x, hx⟩ := List.exists_mem_of_ne_nil _ hc
  intro e
  have := (h.mem x).mpr hx
  rw [List.map_eq_nil_iff] at e
  rw [e] at this
  exact absurd this (by simp)
structure Mode (cs : List Nat) (x : Nat) (m : Int) : Prop where
  inn : x ∈ cs
  cnt : (cs.count x : Int) = m
  top : ∀ y ∈ cs, (cs.count y : Int) ≤ m
  low : ∀ y ∈ cs, (cs.count y : Int) = m → leD (sgn x) (sgn y) = true
def okN (cs : List Nat) : Prop := ∀ x ∈ cs, x < 1114112
theorem alike_sgn (x y : Nat) : alike (sgn x).toPy (sgn y).toPy = true := rfl
theorem Mode.uniq {cs : List Nat} (ok : okN cs) {x y : Nat} {m k : Int} (h : Mode cs x m) (g : Mode cs y k) : x = y ∧ m = k := by
  have e : m = k := by
    have h1 := h.top y g.inn
    have h2 := g.top x h.inn
    have h3 := h.cnt
    have h4 := g.cnt
    omega
  subst e
  exact ⟨sgn_inj (leD_anti (n := 0) (m := 0) (ok_sgn (ok x h.inn)) (ok_sgn (ok y g.inn)) (alike_sgn x y) (h.low y g.inn g.cnt) (g.low x h.inn h.cnt)), rfl⟩
noncomputable def modeX (cs : List Nat) : Nat := by
  classical
  exact if h : ∃ x m, Mode cs x m then Classical.choose h else 97
def modeM (cs : List Nat) (x : Nat) : Int := cs.count x
theorem modeX_eq {cs : List Nat} (ok : okN cs) {x : Nat} {m : Int} (h : Mode cs x m) : x = modeX cs ∧ m = modeM cs (modeX cs) := by
  have e : x = modeX cs := by
    unfold modeX
    rw [dif_pos ⟨x, m, h⟩]
    obtain ⟨k, hk⟩ := Classical.choose_spec (⟨x, m, h⟩ : ∃ x m, Mode cs x m)
    exact (h.uniq ok hk).1
  exact ⟨e, by unfold modeM; rw [← e, h.cnt]⟩
theorem modeX_ok {cs : List Nat} (ok : okN cs) : modeX cs < 1114112 := by
  unfold modeX
  split
  · rename_i h
    obtain ⟨k, hk⟩ := Classical.choose_spec h
    exact ok _ hk.inn
  · decide
/-! the colours most had, in a dict's order -/
noncomputable def cntQ (cs : List Nat) (m : Int) : D → Bool := fun d => by
  classical
  exact decide (∃ x, d = sgn x ∧ (cs.count x : Int) = m)
theorem cntQ_sgn {cs : List Nat} {m : Int} {x : Nat} : cntQ cs m (sgn x) = decide ((cs.count x : Int) = m) := by
  have e : (∃ y, sgn x = sgn y ∧ (cs.count y : Int) = m) ↔ (cs.count x : Int) = m := ⟨fun ⟨y, e, h⟩ => by rw [sgn_inj e]; exact h, fun h => ⟨x, rfl, h⟩⟩
  unfold cntQ
  classical
  exact Bool.eq_iff_iff.mpr ⟨fun h => decide_eq_true (e.mp (of_decide_eq_true h)), fun h => decide_eq_true (e.mpr (of_decide_eq_true h))⟩
def bestL (cs F : List Nat) (m : Int) : List Nat := F.filter fun x => decide ((cs.count x : Int) = m)
theorem best_map {cs : List Nat} {m : Int} (F : List Nat) : (F.map sgn).filter (cntQ cs m) = (bestL cs F m).map sgn := by
  unfold bestL
  rw [List.filter_map]
  congr 1
  refine List.filter_congr fun x _ => ?_
  show cntQ cs m (sgn x) = _
  rw [cntQ_sgn]
theorem mem_best {cs F : List Nat} {m : Int} {x : Nat} (h : HadI cs F) : x ∈ bestL cs F m ↔ x ∈ cs ∧ (cs.count x : Int) = m := by
  unfold bestL
  rw [List.mem_filter, h.mem, decide_eq_true_iff]
theorem best_mode {cs F : List Nat} {m : Int} (h : HadI cs F) (hm : m ∈ F.map fun x => (cs.count x : Int)) (ht : ∀ j ∈ F.map (fun x => (cs.count x : Int)), j ≤ m) : bestL cs F m ≠ [] ∧ ∀ x ∈ bestL cs F m, (∀ y ∈ bestL cs F m, leD (sgn x) (sgn y) = true) → Mode cs x m := by
  constructor
  · obtain ⟨x, hx, e⟩ := List.mem_map.mp hm
    exact List.ne_nil_of_mem ((mem_best h).mpr ⟨(h.mem x).mp hx, e⟩)
  · intro x hx hy
    obtain ⟨h1, h2⟩ := (mem_best h).mp hx
    exact ⟨h1, h2, fun y hy => ht _ (List.mem_map.mpr ⟨y, (h.mem y).mpr hy, rfl⟩), fun y h3 h4 => hy y ((mem_best h).mpr ⟨h3, h4⟩)⟩
theorem okL_sgn {n : Nat} {T : List Nat} (ok : okN T) : D.okL n (T.map sgn) = true := okL_mapM fun x hx => ok_sgn (ok x hx)
theorem sortOk_sgn {T : List Nat} (ok : okN T) : sortOk (T.map sgn) := ⟨okL_sgn ok, fun d hd e he => by
  obtain ⟨a, _, rfl⟩ := List.mem_map.mp hd
  obtain ⟨b, _, rfl⟩ := List.mem_map.mp he
  exact alike_sgn a b, .inr fun d hd => by
  rw [List.map_map] at hd
  obtain ⟨a, _, rfl⟩ := List.mem_map.mp hd
  exact ⟨by simp [D.toPy, sgn], fun xs e => by simp [D.toPy, sgn] at e⟩⟩
theorem best_ok {cs F : List Nat} {m : Int} (h : HadI cs F) (ok : okN cs) : okN (bestL cs F m) := fun x hx => ok x ((mem_best h).mp hx).1
/-- sorted: the first is the mode -/
theorem sort_best {cs F : List Nat} {m : Int} (h : HadI cs F) (hm : m ∈ F.map fun x => (cs.count x : Int)) (ht : ∀ j ∈ F.map (fun x => (cs.count x : Int)), j ≤ m) : ∃ x T, ((bestL cs F m).map sgn).mergeSort leD = (x :: T).map sgn ∧ Mode cs x m := by
  obtain ⟨h1, h2⟩ := best_mode h hm ht
  have hp : (((bestL cs F m).map sgn).mergeSort leD).Perm ((bestL cs F m).map sgn) := List.mergeSort_perm _ _
  have hw := leD_pairwise ((bestL cs F m).map sgn)
  have hall : ∀ d ∈ ((bestL cs F m).map sgn).mergeSort leD, ∃ x, x ∈ bestL cs F m ∧ sgn x = d := fun d hd => by
    obtain ⟨x, hx, e⟩ := List.mem_map.mp (hp.mem_iff.mp hd)
    exact ⟨x, hx, e⟩
  have hlen : (((bestL cs F m).map sgn).mergeSort leD).length = (bestL cs F m).length := by rw [hp.length_eq, List.length_map]
  generalize hS : ((bestL cs F m).map sgn).mergeSort leD = S at *
  cases S with
  | nil =>
    have : (bestL cs F m).length = 0 := hlen.symm
    exact absurd (List.eq_nil_of_length_eq_zero this) h1
  | cons d S =>
    obtain ⟨x, hx, rfl⟩ := hall d (by simp)
    have hT : ∃ T : List Nat, S = T.map sgn := by
      have : ∀ S : List D, (∀ d ∈ S, ∃ x : Nat, sgn x = d) → ∃ T : List Nat, S = T.map sgn := by
        intro S
        induction S with
        | nil => exact fun _ => ⟨[], rfl⟩
        | cons d S ih =>
          intro hh
          obtain ⟨x, e⟩ := hh d (by simp)
          obtain ⟨T, e2⟩ := ih fun d hd => hh d (by simp [hd])
          exact ⟨x :: T, by rw [e2, ← e]; rfl⟩
      exact this S fun d hd => by
        obtain ⟨x, _, e⟩ := hall d (by simp [hd])
        exact ⟨x, e⟩
    obtain ⟨T, rfl⟩ := hT
    refine ⟨x, T, rfl, h2 x hx fun y hy => ?_⟩
    have hy2 := hp.mem_iff.mpr (List.mem_map.mpr ⟨y, hy, rfl⟩)
    rcases List.mem_cons.mp hy2 with e | e
    · rw [e]
      rcases leD_total.total (sgn x) (sgn x) with z | z <;> exact z
    · exact (List.pairwise_cons.mp hw).1 _ e
theorem sorted_best {cs F : List Nat} {m : Int} {Q : RV → Prop} (h : HadI cs F) (ok : okN cs) (hm : m ∈ F.map fun x => (cs.count x : Int)) (ht : ∀ j ∈ F.map (fun x => (cs.count x : Int)), j ≤ m) (q : ∀ x T, Mode cs x m → Q (.fr (.lst ((x :: T).map sgn)))) : opSorted [.lst ((bestL cs F m).map sgn)] Q := by
  obtain ⟨x, T, e, hM⟩ := sort_best h hm ht
  refine ⟨_, rfl, sortOk_sgn (best_ok h ok), ?_⟩
  rw [e]
  exact q x T hM
theorem okN_cols {f : Cp} (h : okC f) (C : List Pl) : okN (colsL f C) := fun x hx => by
  obtain ⟨p, _, rfl⟩ := List.mem_map.mp hx
  exact h _ _
/-! the paper, and what it makes -/
noncomputable def modC (n : Nat) (L : List Mv) (f : Cp) (p : Pl) : Nat := modeX (colsL f (circP n L p))
noncomputable def SM (n : Nat) (L : List Mv) (f : Cp) : List (Pl × Nat) := (rootsL n L).map fun p => (p, modC n L f p)
noncomputable def rowD (n : Nat) (L : List Mv) (f : Cp) (q : Pl × Nat) : D := .tup [dLP (circP n L q.1), sgn q.2, .int (modeM (colsL f (circP n L q.1)) q.2)]
noncomputable def papD (n : Nat) (L : List Mv) (f : Cp) : D := .lst ((SM n L f).map (rowD n L f))
noncomputable def menF (n : Nat) (L : List Mv) (f : Cp) : Cp := fun r c => modC n L f (rootP n L (r, c))
theorem menF_ok {n : Nat} {L : List Mv} {f : Cp} (h : okC f) : okC (menF n L f) := fun r c => modeX_ok (okN_cols h _)
theorem SM_Gs {n : Nat} (hn : 0 < n) {L : List Mv} (ok : ∀ m ∈ L, m.ok n) (f : Cp) : Gs n L (SM n L f) (menF n L f) := by
  refine ⟨fun q hq => ?_, fun q hq p h => ?_, fun p hp => ?_⟩
  · obtain ⟨r, hr, rfl⟩ := List.mem_map.mp hq
    exact (mem_rootsL.mp hr).1
  · obtain ⟨r, hr, rfl⟩ := List.mem_map.mp hq
    have hm := mem_rootsL.mp hr
    unfold menF
    rw [show ((p.1, p.2) : Pl) = p from rfl, rootP_eq hn ok hm.1 h, hm.2]
  · refine ⟨(rootP n L p, modC n L f (rootP n L p)), List.mem_map.mpr ⟨_, root_mem hn ok hp, rfl⟩, ?_⟩
    exact rchP_symm hn ok hp (rootP_rch hp)
theorem SM_len (n : Nat) (L : List Mv) (f : Cp) : (SM n L f).length ≤ n * n := by
  unfold SM
  rw [List.length_map]
  exact roots_len n L
/-! where two carpets differ -/
def diffL (n : Nat) (g f : Cp) : List Pl := (allP n).filter fun p => decide (g p.1 p.2 ≠ f p.1 p.2)
def diffP (n : Nat) (g f : Cp) (i : Nat) : List Pl := (preP n i 0).filter fun p => decide (g p.1 p.2 ≠ f p.1 p.2)
theorem diffP_all (n : Nat) (g f : Cp) : diffP n g f n = diffL n g f := by unfold diffP diffL; rw [preP_all]
theorem diffP_len (n : Nat) (g f : Cp) (i : Nat) : (diffP n g f i).length ≤ i * n := by
  unfold diffP
  refine Nat.le_trans (List.length_filter_le _ _) ?_
  rw [preP_len]
  omega
def rowQ (g f : Cp) (r : Int) : D → Bool
  | .int c => decide (g r c ≠ f r c)
  | _ => false
def rowP (r : Int) : D → D
  | .int c => dPl r c
  | d => d
theorem diff_row (n : Nat) (g f : Cp) (i : Nat) : (diffP n g f i).map dP ++ ((rgD 0 n).filter (rowQ g f i)).map (rowP i) = (diffP n g f (i + 1)).map dP := by
  unfold diffP
  rw [preP_row]
  have e : preP n i n = preP n i 0 ++ (List.range n).map fun c : Nat => (((i : Nat) : Int), ((c : Nat) : Int)) := by
    unfold preP
    rw [List.range_zero, List.map_nil, List.append_nil]
  rw [e, List.filter_append, List.map_append]
  congr 1
  unfold rgD
  rw [List.filter_map, List.filter_map, List.map_map, List.map_map]
  have e2 : ((rowQ g f i) ∘ fun c : Nat => D.int (0 + (c : Int))) = (fun p : Pl => decide (g p.1 p.2 ≠ f p.1 p.2)) ∘ fun c : Nat => (((i : Nat) : Int), ((c : Nat) : Int)) := by
    funext c
    show decide (g i (0 + (c : Int)) ≠ f i (0 + (c : Int))) = decide (g i c ≠ f i c)
    rw [Int.zero_add]
  rw [e2]
  refine List.map_congr_left fun c _ => ?_
  show dPl i (0 + (c : Int)) = dPl i c
  rw [Int.zero_add]
def dmQ (n : Int) (g f : Cp) : D → Bool
  | .int k => decide (g (k / n) (k % n) ≠ f (k / n) (k % n))
  | _ => false
theorem diff_dm (n : Nat) (hn : 0 < n) (g f : Cp) : ((rgD 0 (n * n)).filter (dmQ n g f)).map (dmF n) = (diffL n g f).map dP := by
  have h := dm_map n hn
  have h2 : (rgD 0 (n * n)).filter (dmQ n g f) = (rgD 0 (n * n)).filter ((fun d => match d with | .tup [.int r, .int c] => decide (g r c ≠ f r c) | _ => false) ∘ dmF n) := by
    refine List.filter_congr fun d hd => ?_
    obtain ⟨k, _, rfl⟩ := mem_rg hd
    rfl
  rw [h2, ← List.filter_map, h]
  unfold diffL
  rw [List.filter_map]
  rfl
theorem diffL_len (n : Nat) (g f : Cp) : (diffL n g f).length ≤ n * n := by
  unfold diffL
  rw [← allP_len n]
  exact List.length_filter_le _ _
noncomputable def menD (n : Nat) (L : List Mv) (f : Cp) : D := .tup [cpD n (menF n L f), .lst ((diffL n (menF n L f) f).map dP), papD n L f]
/-! circles, sorted -/
theorem circ_cons {n : Nat} {L : List Mv} {p : Pl} (hp : p ∈ rootsL n L) : ∃ T, circP n L p = p :: T := by
  have hm := mem_rootsL.mp hp
  have hs := circP_self (L := L) hm.1
  have hr := hm.2
  unfold rootP at hr
  cases e : circP n L p with
  | nil => rw [e] at hs; cases hs
  | cons a T =>
    rw [e] at hr
    exact ⟨T, by rw [show a = p from hr]⟩
theorem circ_sorted {n : Nat} (L : List Mv) : ((rootsL n L).map fun p => dLP (circP n L p)).Pairwise (fun a b => leD a b = true) := by
  rw [List.pairwise_map]
  have h := ((allP_pw n).filter (fun p => decide (rootP n L p = p)))
  refine List.Pairwise.imp_of_mem ?_ (show (rootsL n L).Pairwise _ from h)
  intro a b ha hb ⟨h1, h2⟩
  obtain ⟨r, hr⟩ := circ_cons (n := n) (L := L) (p := a) ha
  obtain ⟨s, hs⟩ := circ_cons (n := n) (L := L) (p := b) hb
  rw [hr, hs]
  refine ltP_lt ?_
  rcases leP_lt.mp h1 with e | e
  · exact absurd e h2
  · exact e
theorem sorted_circ {n : Nat} {L : List Mv} {Q : RV → Prop} (q : Q (.fr (.lst ((rootsL n L).map fun p => dLP (circP n L p))))) : opSorted [.lst ((rootsL n L).map fun p => dLP (circP n L p))] Q := by
  refine ⟨_, rfl, ?_, by rw [sortD_id (circ_sorted L)]; exact q⟩
  have := sortOk_LP ((rootsL n L).map fun p => circP n L p)
  rw [List.map_map] at this
  exact this
/-! circles told place by place -/
def RK (n : Nat) (L : List Mv) (k : Nat) (F : List Pl) : Prop := RInv n L (k / n) (k % n) F
noncomputable def preK (n : Nat) (L : List Mv) (k : Nat) : List Pl := preR n L (k / n) (k % n)
theorem RK.zero {n : Nat} {L : List Mv} : RK n L 0 [] := by
  unfold RK
  rw [Nat.zero_div, Nat.zero_mod]
  exact RInv.zero
theorem kdm {n k : Nat} (hn : 0 < n) : ((k + 1) / n = k / n ∧ (k + 1) % n = k % n + 1) ∨ ((k + 1) / n = k / n + 1 ∧ (k + 1) % n = 0 ∧ k % n + 1 = n) := by
  have h1 := Nat.div_add_mod k n
  have h2 := Nat.mod_lt k hn
  by_cases h : k % n + 1 = n
  · right
    have e : k + 1 = n * (k / n + 1) := by rw [Nat.mul_add]; omega
    exact ⟨by rw [e, Nat.mul_div_cancel_left _ hn], by rw [e, Nat.mul_mod_right], h⟩
  · left
    have e : k + 1 = (k % n + 1) + n * (k / n) := by omega
    refine ⟨?_, ?_⟩
    · rw [e, Nat.add_mul_div_left _ _ hn, Nat.div_eq_of_lt (by omega)]; omega
    · rw [e, Nat.add_mul_mod_self_left, Nat.mod_eq_of_lt (by omega)]
theorem RK.succ {n k : Nat} (hn : 0 < n) {L : List Mv} {F : List Pl} (h : RInv n L (k / n) (k % n + 1) F) : RK n L (k + 1) F := by
  unfold RK
  rcases kdm (k := k) hn with ⟨e1, e2⟩ | ⟨e1, e2, e3⟩
  · rw [e1, e2]; exact h
  · rw [e1, e2]
    rw [e3] at h
    exact h.row
theorem preK_succ {n k : Nat} (hn : 0 < n) (L : List Mv) : preK n L (k + 1) = preR n L (k / n) (k % n + 1) := by
  unfold preK
  rcases kdm (k := k) hn with ⟨e1, e2⟩ | ⟨e1, e2, e3⟩
  · rw [e1, e2]
  · rw [e1, e2, e3, preR_row]
theorem preK_zero (n : Nat) (L : List Mv) : preK n L 0 = [] := by
  unfold preK
  rw [Nat.zero_div, Nat.zero_mod]
  rfl
theorem preK_all {n : Nat} (hn : 0 < n) (L : List Mv) : preK n L (n * n) = rootsL n L := by
  unfold preK
  rw [Nat.mul_div_cancel _ hn, Nat.mul_mod_right, preR_all]
theorem preK_len {n : Nat} (L : List Mv) (k : Nat) : (preK n L k).length ≤ k := by
  have := preR_len n L (k / n) (k % n)
  have h1 := Nat.div_add_mod k n
  rw [Nat.mul_comm] at h1
  unfold preK
  omega
/-- the spots found are the circle -/
theorem spots_circ {n i j : Nat} (hn : 0 < n) {L : List Mv} (ok : ∀ x ∈ L, x.ok n) {F W : List Pl} {r : Nat} (h : RInv n L i j F) (hp : (((i : Int), (j : Int)) : Pl) ∈ allP n) (hF : (((i : Int), (j : Int)) : Pl) ∉ F) (hC : CInv (ledP n) L (F ++ [(((i : Int), (j : Int)) : Pl)]) (allP n) (F ++ W) [] r) : sortP W = circP n L ((i : Int), (j : Int)) := by
  have hnd := List.nodup_append.mp hC.nd
  refine sort_circ hn hp hnd.2.1 fun m => ⟨fun hm => ?_, fun hm => ?_⟩
  · have h1 := (hC.done m).mp (List.mem_append_right _ hm)
    rcases Rch.split (h.closed hn ok) h1 with e | e
    · exact absurd rfl (hnd.2.2 m e m hm)
    · exact e
  · have h1 : Rch (ledP n) L (F ++ [(((i : Int), (j : Int)) : Pl)]) m := hm.mono (fun _ z => z) fun a ha => List.mem_append_right _ ha
    rcases List.mem_append.mp ((hC.done m).mpr h1) with e | e
    · have h2 := (h.circ hn ok hp hF).1
      exact absurd rfl ((List.nodup_append.mp h2).2.2 m e m (mem_circP.mpr ⟨rchP_in hn hp hm, hm⟩))
    · exact e
theorem CInv.two {n : Nat} (hn : 0 < n) {L : List Mv} (ok : ∀ x ∈ L, x.ok n) {i j : Nat} {F : List Pl} (h : RInv n L i j F) (hp : (((i : Int), (j : Int)) : Pl) ∈ allP n) (hF : (((i : Int), (j : Int)) : Pl) ∉ F) : CInv (ledP n) L (F ++ [(((i : Int), (j : Int)) : Pl)]) (allP n) (F ++ [(((i : Int), (j : Int)) : Pl)]) [(((i : Int), (j : Int)) : Pl)] (2 * (allP n).length - 2 * F.length - 1) :=
  CInv.init h.nd hF (h.closed hn ok) fun m hm => by
    rcases List.mem_append.mp hm with z | z
    · exact ((h.mem m).mp z).1
    · rw [List.mem_singleton.mp z]; exact hp
theorem drop_take {W : List Pl} {at' : Nat} {one : Pl} (h : W[at']? = some one) : ∀ m, m ∈ W.drop at' ↔ m = one ∨ m ∈ W.drop (at' + 1) := fun m => by
  obtain ⟨h1, h2⟩ := List.getElem?_eq_some_iff.mp h
  rw [List.drop_eq_getElem_cons h1, h2, List.mem_cons]
end VN
namespace VN
open PySem VS PySem.W
theorem rowD_ok {n m : Nat} {L : List Mv} {f : Cp} (h : okC f) {q : Pl × Nat} (hq : q ∈ SM n L f) : D.okD (m + 3) (rowD n L f q) = true := by
  obtain ⟨p, _, rfl⟩ := List.mem_map.mp hq
  exact ok_tup (okL_cons (ok_lst okL_P) (okL_cons (ok_sgn (modeX_ok (okN_cols h _))) (okL_cons ok_int okL_nil)))
theorem okL_rowD {n m : Nat} {L : List Mv} {f : Cp} (h : okC f) : D.okL (m + 3) ((SM n L f).map (rowD n L f)) = true := okL_mapM fun q hq => rowD_ok h hq
theorem ok_papD {n m : Nat} {L : List Mv} {f : Cp} (h : okC f) : D.okD (m + 4) (papD n L f) = true := ok_lst (okL_rowD h)
end VN
namespace VS
open PySem
theorem lc_rel {g : GT} {te : ET} {is : List Nat} {Q : List D → Env → Prop} {ds : List D} {E : Env} (R : D → Prop) (hl : ds.length ≤ sizeLine) (fin : ∀ xs : List D, (∀ d ∈ xs, R d) → xs.length = ds.length → Q xs E)
    (step : ∀ d ∈ ds, ∀ K : D → Env → Prop, (∀ d', R d' → K d' E) → g d E fun e1 => te e1 (fun rv e3 => ∃ dv e4, fz e3 rv = some (dv, e4) ∧ K dv (wipeE e4 is)) noX) : WC g tYesD te is Q ds E := by
  have key : ∀ (ds : List D) (acc : List D), acc.length + ds.length ≤ sizeLine → (∀ d ∈ acc, R d) → (∀ d ∈ ds, ∀ K : D → Env → Prop, (∀ d', R d' → K d' E) → g d E fun e1 => te e1 (fun rv e3 => ∃ dv e4, fz e3 rv = some (dv, e4) ∧ K dv (wipeE e4 is)) noX) → (∀ xs : List D, (∀ d ∈ xs, R d) → xs.length = acc.length + ds.length → Q xs E) → wLc g tYesD te is Q ds acc E := by
    intro ds
    induction ds with
    | nil =>
      intro acc _ ha _ q
      exact q acc ha (by simp)
    | cons d ds ih =>
      intro acc hz ha hs q
      rw [List.length_cons] at hz
      have h1 := hs d (by simp) (fun dv e4 => acc.length < sizeLine ∧ wLc g tYesD te is Q ds (acc ++ [dv]) e4) fun d' hd' => ⟨by omega, ih (acc ++ [d']) (by rw [List.length_append, List.length_singleton]; omega) (fun x hx => (List.mem_append.mp hx).elim (ha x) fun z => by rw [List.mem_singleton.mp z]; exact hd') (fun x hx => hs x (by simp [hx])) fun xs h1 h2 => q xs h1 (by rw [h2, List.length_append, List.length_singleton, List.length_cons]; omega)⟩
      exact h1
  rw [WC_eq]
  exact key ds [] (by simpa using hl) (by simp) step fun xs h1 h2 => fin xs h1 (by simpa using h2)
end VS
namespace VN
open PySem VS PySem.W
end VN

/-! WD: the fewest knots changed -/
namespace VN
open PySem VS PySem.W
theorem sum_add2 {α : Type} (f g : α → Nat) : ∀ R : List α, (R.map fun r => f r + g r).sum = (R.map f).sum + (R.map g).sum
  | [] => rfl
  | r :: R => by
    have := sum_add2 f g R
    simp only [List.map_cons, List.sum_cons] at this ⊢
    omega
theorem sum_le2 {α : Type} {f g : α → Nat} : ∀ {R : List α}, (∀ r ∈ R, f r ≤ g r) → (R.map f).sum ≤ (R.map g).sum
  | [], _ => Nat.le_refl _
  | r :: R, h => by
    have h1 := h r (by simp)
    have h2 := sum_le2 (f := f) (g := g) (R := R) fun x hx => h x (by simp [hx])
    simp only [List.map_cons, List.sum_cons]
    omega
theorem sum_zero {α : Type} : ∀ R : List α, (R.map fun _ => 0).sum = 0
  | [] => rfl
  | r :: R => by
    have := sum_zero R
    simp only [List.map_cons, List.sum_cons] at this ⊢
    omega
theorem sum_cast {α : Type} (f : α → Nat) : ∀ R : List α, (R.map fun r => ((f r : Nat) : Int)).sum = (((R.map f).sum : Nat) : Int)
  | [] => rfl
  | r :: R => by
    have := sum_cast f R
    simp only [List.map_cons, List.sum_cons] at this ⊢
    omega
theorem sum_out {a : Pl} {b : Nat} : ∀ {R : List Pl}, a ∉ R → (R.map fun r => if a = r then b else 0).sum = 0
  | [], _ => rfl
  | r :: R, h => by
    rw [List.mem_cons, not_or] at h
    have := sum_out (b := b) h.2
    simp only [List.map_cons, List.sum_cons, if_neg h.1] at this ⊢
    omega
theorem sum_ind {a : Pl} {b : Nat} : ∀ {R : List Pl}, R.Nodup → a ∈ R → (R.map fun r => if a = r then b else 0).sum = b
  | [], _, h => absurd h (by simp)
  | r :: R, hR, h => by
    rw [List.nodup_cons] at hR
    by_cases e : a = r
    · have := sum_out (b := b) (show a ∉ R by rw [e]; exact hR.1)
      simp only [List.map_cons, List.sum_cons, if_pos e] at this ⊢
      omega
    · have := sum_ind (b := b) hR.2 ((List.mem_cons.mp h).resolve_left e)
      simp only [List.map_cons, List.sum_cons, if_neg e] at this ⊢
      omega
theorem fib_sum (φ : Pl → Pl) (P : Pl → Bool) {R : List Pl} (hR : R.Nodup) : ∀ A : List Pl, (∀ a ∈ A, φ a ∈ R) → (R.map fun r => (A.filter fun a => decide (φ a = r) && P a).length).sum = (A.filter P).length
  | [], _ => sum_zero R
  | a :: A, h => by
    have ih := fib_sum φ P hR A fun x hx => h x (by simp [hx])
    have e : ∀ r, ((a :: A).filter fun a => decide (φ a = r) && P a).length = (if φ a = r then (if P a = true then 1 else 0) else 0) + (A.filter fun a => decide (φ a = r) && P a).length := fun r => by
      by_cases h1 : φ a = r
      · by_cases h2 : P a = true
        · rw [List.filter_cons_of_pos (by simp [h1, h2]), if_pos h1, if_pos h2, List.length_cons]; omega
        · rw [List.filter_cons_of_neg (by simp [h2]), if_pos h1, if_neg h2]; omega
      · rw [List.filter_cons_of_neg (by simp [h1]), if_neg h1]; omega
    have e2 : (R.map fun r => ((a :: A).filter fun a => decide (φ a = r) && P a).length) = R.map fun r => (if φ a = r then (if P a = true then 1 else 0) else 0) + (A.filter fun a => decide (φ a = r) && P a).length := List.map_congr_left fun r _ => e r
    rw [e2, sum_add2, sum_ind hR (h a (by simp)), ih]
    by_cases h2 : P a = true
    · rw [List.filter_cons_of_pos h2, if_pos h2, List.length_cons]; omega
    · rw [List.filter_cons_of_neg h2, if_neg h2]; omega
theorem roots_nodup (n : Nat) (L : List Mv) : (rootsL n L).Nodup := (allP_nodup n).filter _
theorem circ_sum {n : Nat} (hn : 0 < n) {L : List Mv} (ok : ∀ m ∈ L, m.ok n) (P : Pl → Bool) : ((rootsL n L).map fun r => ((circP n L r).filter P).length).sum = ((allP n).filter P).length := by
  rw [← fib_sum (rootP n L) P (roots_nodup n L) (allP n) fun a ha => root_mem hn ok ha]
  congr 1
  refine List.map_congr_left fun r hr => ?_
  have hm := mem_rootsL.mp hr
  classical
  unfold circP
  rw [List.filter_filter]
  congr 1
  refine List.filter_congr fun q hq => ?_
  have e : RchP n L r q ↔ rootP n L q = r := by
    rw [← rootP_iff hn ok hm.1 hq, hm.2]
    exact eq_comm
  have e2 : decide (RchP n L r q) = decide (rootP n L q = r) := Bool.eq_iff_iff.mpr ⟨fun z => decide_eq_true (e.mp (of_decide_eq_true z)), fun z => decide_eq_true (e.mpr (of_decide_eq_true z))⟩
  rw [e2, Bool.and_comm]
theorem had_ex : ∀ l : List Nat, ∃ F, HadI l.reverse F
  | [] => ⟨[], HadI.zero⟩
  | a :: l => by
    obtain ⟨F, h⟩ := had_ex l
    obtain ⟨F', h', _⟩ := h.put a
    exact ⟨F', by rw [List.reverse_cons]; exact h'⟩
theorem max_ex : ∀ ns : List Int, ns ≠ [] → ∃ m, m ∈ ns ∧ ∀ j ∈ ns, j ≤ m
  | [], h => absurd rfl h
  | [a], _ => ⟨a, by simp, fun j hj => by rw [List.mem_singleton.mp hj]; exact Int.le_refl _⟩
  | a :: b :: ns, _ => by
    obtain ⟨m, h1, h2⟩ := max_ex (b :: ns) (by simp)
    by_cases h : m ≤ a
    · refine ⟨a, by simp, fun j hj => ?_⟩
      rcases List.mem_cons.mp hj with e | e
      · rw [e]; exact Int.le_refl _
      · exact Int.le_trans (h2 j e) h
    · refine ⟨m, by simp [h1], fun j hj => ?_⟩
      rcases List.mem_cons.mp hj with e | e
      · rw [e]; omega
      · exact h2 j e
theorem mode_ex {cs : List Nat} (hc : cs ≠ []) : ∃ x m, Mode cs x m := by
  obtain ⟨F, hF⟩ := had_ex cs.reverse
  rw [List.reverse_reverse] at hF
  obtain ⟨m, h1, h2⟩ := max_ex _ (had_vals_ne hF hc)
  obtain ⟨x, _, _, h3⟩ := sort_best hF h1 h2
  exact ⟨x, m, h3⟩
theorem modeX_mode {cs : List Nat} (ok : okN cs) (hc : cs ≠ []) : Mode cs (modeX cs) (modeM cs (modeX cs)) := by
  obtain ⟨x, m, h⟩ := mode_ex hc
  obtain ⟨e1, e2⟩ := modeX_eq ok h
  rw [← e2, ← e1]
  exact h
theorem count_cols (f : Cp) (x : Nat) : ∀ C : List Pl, (C.filter fun q => decide (x ≠ f q.1 q.2)).length + (colsL f C).count x = C.length
  | [] => rfl
  | p :: C => by
    have ih := count_cols f x C
    unfold colsL at ih ⊢
    rw [List.map_cons, List.count_cons]
    by_cases e : x = f p.1 p.2
    · rw [List.filter_cons_of_neg (by simp [e]), if_pos (by simp [e]), List.length_cons]; omega
    · rw [List.filter_cons_of_pos (by simpa using e), if_neg (by simpa using fun z => e z.symm), List.length_cons, List.length_cons]; omega
/-- h is alike on each circle -/
def Flat (n : Nat) (L : List Mv) (h : Cp) : Prop := ∀ r ∈ rootsL n L, ∀ q ∈ circP n L r, h q.1 q.2 = h r.1 r.2
theorem flat_len {n : Nat} {L : List Mv} {h f : Cp} (hh : Flat n L h) {r : Pl} (hr : r ∈ rootsL n L) : ((circP n L r).filter fun q => decide (h q.1 q.2 ≠ f q.1 q.2)).length + (colsL f (circP n L r)).count (h r.1 r.2) = (circP n L r).length := by
  rw [← count_cols f (h r.1 r.2) (circP n L r)]
  congr 2
  refine List.filter_congr fun q hq => ?_
  rw [hh r hr q hq]
theorem men_flat {n : Nat} (hn : 0 < n) {L : List Mv} (ok : ∀ m ∈ L, m.ok n) (f : Cp) : Flat n L (menF n L f) := fun r hr q hq => by
  have hm := mem_rootsL.mp hr
  unfold menF
  rw [show ((q.1, q.2) : Pl) = q from rfl, show ((r.1, r.2) : Pl) = r from rfl, rootP_eq hn ok hm.1 (mem_circP.mp hq).2]
theorem men_root {n : Nat} {L : List Mv} {f : Cp} {r : Pl} (hr : r ∈ rootsL n L) : menF n L f r.1 r.2 = modC n L f r := by
  unfold menF
  rw [show ((r.1, r.2) : Pl) = r from rfl, (mem_rootsL.mp hr).2]
theorem men_least {n : Nat} (hn : 0 < n) {L : List Mv} (ok : ∀ m ∈ L, m.ok n) {f h : Cp} (hf : okC f) (hh : Flat n L h) : (diffL n (menF n L f) f).length ≤ (diffL n h f).length := by
  unfold diffL
  rw [← circ_sum hn ok, ← circ_sum hn ok]
  refine sum_le2 fun r hr => ?_
  have h1 := flat_len (f := f) (men_flat hn ok f) hr
  have h2 := flat_len (f := f) hh hr
  have hcn : colsL f (circP n L r) ≠ [] := by
    have := circP_self (L := L) (mem_rootsL.mp hr).1
    intro e
    unfold colsL at e
    rw [List.map_eq_nil_iff] at e
    rw [e] at this
    cases this
  have hM := modeX_mode (okN_cols hf (circP n L r)) hcn
  rw [men_root hr] at h1
  unfold modC at h1
  have h3 : (colsL f (circP n L r)).count (h r.1 r.2) ≤ (colsL f (circP n L r)).count (modeX (colsL f (circP n L r))) := by
    by_cases e : h r.1 r.2 ∈ colsL f (circP n L r)
    · have := hM.top _ e
      unfold modeM at this
      omega
    · rw [List.count_eq_zero_of_not_mem e]; omega
  omega
theorem men_sum {n : Nat} (hn : 0 < n) {L : List Mv} (ok : ∀ m ∈ L, m.ok n) (f : Cp) : ((SM n L f).map fun q => modeM (colsL f (circP n L q.1)) q.2).sum = (n : Int) * n - ((diffL n (menF n L f) f).length : Int) := by
  have e1 : ((SM n L f).map fun q => modeM (colsL f (circP n L q.1)) q.2) = (rootsL n L).map fun r => (((colsL f (circP n L r)).count (modC n L f r) : Nat) : Int) := by
    unfold SM
    rw [List.map_map]
    rfl
  rw [e1, sum_cast]
  have h1 : ((rootsL n L).map fun r => ((circP n L r).filter fun q => decide (menF n L f q.1 q.2 ≠ f q.1 q.2)).length + (colsL f (circP n L r)).count (modC n L f r)).sum = n * n := by
    have e2 : ((rootsL n L).map fun r => ((circP n L r).filter fun q => decide (menF n L f q.1 q.2 ≠ f q.1 q.2)).length + (colsL f (circP n L r)).count (modC n L f r)) = (rootsL n L).map fun r => ((circP n L r).filter fun _ => true).length := by
      refine List.map_congr_left fun r hr => ?_
      have h1 := flat_len (f := f) (men_flat hn ok f) hr
      rw [men_root hr] at h1
      rw [h1, List.filter_eq_self.mpr (fun _ _ => rfl)]
    rw [e2, circ_sum hn ok, List.filter_eq_self.mpr (fun _ _ => rfl), allP_len]
  rw [sum_add2, circ_sum hn ok] at h1
  unfold diffL
  rw [← Int.natCast_mul]
  omega
theorem men_mov {n : Nat} (hn : 0 < n) {L : List Mv} (ok : ∀ m ∈ L, m.ok n) (f : Cp) {m : Mv} (hm : m ∈ L) : cpD n (movF n m (menF n L f)) = cpD n (menF n L f) := cp_ext.mpr fun r c h0 h1 h2 h3 => by
  have hn' : (0 : Int) < n := by omega
  have o := lR_ok hn' (inv n m).w (inv n m).d r c
  have o2 := lC_ok hn' (inv n m).w (inv n m).r r c
  have b := led_there hn m (ok m hm) h0 h1 h2 h3
  have hp : ((lR n (inv n m).w (inv n m).d r c, lC n (inv n m).w (inv n m).r r c) : Pl) ∈ allP n := mem_allP.mpr ⟨o.1, o.2, o2.1, o2.2⟩
  have e := rootP_eq (L := L) hn ok hp (.step (rchP_refl _) hm)
  have e2 : ledP n ((lR n (inv n m).w (inv n m).d r c, lC n (inv n m).w (inv n m).r r c) : Pl) m = (r, c) := Prod.ext b.1 b.2
  rw [e2] at e
  show modC n L f (rootP n L (lR n (inv n m).w (inv n m).d r c, lC n (inv n m).w (inv n m).r r c)) = modC n L f (rootP n L (r, c))
  rw [e]
/-! a carpet coloured circle by circle -/
noncomputable def hF (n : Nat) (L : List Mv) (G : Pl → Nat) : Cp := fun r c => G (rootP n L (r, c))
def setG (G : Pl → Nat) (p : Pl) (x : Nat) : Pl → Nat := fun q => if q = p then x else G q
end VN
namespace VN
open PySem VS PySem.W
def thrF : D → D
  | .tup [_, _, d] => d
  | d => d
end VN

/-! VTA: for x in reversed(list) -/
namespace VS
open PySem PySem.Spec L2 PyProof.Rows
variable {c : Cfg} {G B : Hp}
def itV (rv : RV) (e1 : Env) (Q : List D → Option Nat → Env → Prop) : Prop := match rv with
  | .val (.lst ds) => Q ds.reverse none e1
  | .slot i => match e1[i]? with
    | some (.own (.lst ds)) => Q ds.reverse (some i) e1
    | some (.bor (.lst ds)) => Q ds.reverse none e1
    | _ => False
  | _ => False
def iRev1 (ta : AT) : IT := fun env Q Xq => ta env (fun rs e1 => ∃ rv, rs = [rv] ∧ itV rv e1 Q) Xq
end VS

/-! VTB: a whole row of movements -/
namespace VN
open PySem VS PySem.W
theorem mov_cg {n : Nat} (hn : 0 < n) (m : Mv) {g g' : Cp} (e : cpD n g = cpD n g') : cpD n (movF n m g) = cpD n (movF n m g') := cp_ext.mpr fun r c _ _ _ _ => mov_congr hn m (cp_ext.mp e) r c
theorem mov_stay_cp {n : Nat} (hn : 0 < n) (f : Cp) : cpD n (movF n stayM f) = cpD n f := cp_ext.mpr (mov_stay hn f)
def nowF (n : Nat) (Ms : List Mv) (f : Cp) : Cp := Ms.foldl (fun g m => movF n m g) f
end VN
namespace VN
open PySem VS PySem.W
end VN

/-! VTC: range(a, b) of any size: its long iterator -/
namespace PySem
open Sem (wp)
abbrev IsLr (h : Heap) (p : Addr) (v m st : Int) : Prop := h.get? p = some { cls := .type "longrange_iterator", dict := none, data := .fields #[rawInt v, rawInt m, rawInt st], slots := #[] }
end PySem
namespace PySem
open Sem (wp)
section
variable {prog : Program} {w : World} {A : Around} {E : Value → Shared → Prop} {s : Shared}
end
end PySem
namespace VS
open PySem PySem.Spec L2 PyProof.Rows
def iRngL (ta : TA) : TI := fun σ H R => ta σ H fun vs H1 => ∃ i j : Int, vs = [.int i, .int j] ∧ R (Itr i (j - i).toNat) H1
variable {c : Cfg}
def iRgL (ta : AT) : IT := fun env Q Xq => ta env (fun rs e1 => ∃ i j, rs = [.val (.int i), .val (.int j)] ∧ Q (rgD i (j - i).toNat) none e1) Xq
end VS

/-! VTD: carpets laid without end -/
namespace VN
open PySem VS PySem.W
end VN
namespace VN
open PySem VS PySem.W
end VN

/-! WE: texts: their parts, cuts and figures -/
namespace VN
open PySem VS
/-! figures -/
def figC (c : Nat) : Bool := decide (48 ≤ c) && decide (c ≤ 57)
def figS (w : Str) : Bool := w.cps.toList.all figC
/-- a number of at most four figures, without a nought ahead -/
def numO (w : Str) : Option Int :=
  if w.length < 1 ∨ 4 < w.length ∨ figS w = false ∨ (1 < w.length ∧ w.cps.toList.head? = some 48) then none else some ((NumText.digitsVal w.cps.toList : Nat) : Int)
def oI : Option Int → D
  | some i => .int i
  | none => .non
end VN
namespace VN
open PySem VS
def digB : D → D
  | .str s => .bl (s.cps.toList.all figC)
  | _ => .bl false
/-! a movement's text -/
def shD : D → D
  | .int i => .str (toString i)
  | d => d
def shT (m : Mv) : Str := Txt.join "." [m.w.str, toString m.d, toString m.r]
def Mv.sm (m : Mv) : Prop := m.ok 8
def shTs : List Mv → Str
  | [] => "-"
  | m :: ms => Txt.join "," ((m :: ms).map shT)
end VN
namespace VN
open PySem VS
def shF : D → D
  | .tup [.str w, .int d, .int r] => .str (Txt.join "." [w, toString d, toString r])
  | d => d
end VN
namespace VN
open PySem VS
end VN
namespace VN
open PySem VS
end VN
namespace VN
open PySem VS
end VN
namespace VN
open PySem VS
end VN
namespace VN
open PySem VS
end VN
namespace VN
open PySem VS
end VN
namespace VN
open PySem VS
end VN

/-! VTE: the items of our own dict, walked: the dict is shared from then on -/
namespace VS
open PySem PySem.Spec L2 PyProof.Rows
def tLk (td : TE) : TE := fun σ H Q => td σ H fun x H1 => ∃ d kvs, x = V.ref d ∧ H1 d = some (.dK kvs) ∧ ∀ od, Q x (upd H1 d (.frz od (.dK kvs)))
variable {c : Cfg} {G B : Hp}
def iDi (i : Nat) : IT := fun env Q _ => ∃ kvs, env[i]? = some (.own (.dic false kvs)) ∧ Q (kvs.map fun p => D.tup [p.1, p.2]) none (env.set i (.val (.dic false kvs)))
end VS

/-! VTF: str(text) -/
namespace VS
open PySem PySem.Spec L2
variable {c : Cfg} {pos : Pos}
/-! str(x), x a whole number or a text -/
def opStrA : List D → (RV → Prop) → Prop
  | [.int i], Q => i.natAbs.log2 < 1920 ∧ Q (.val (.str (toString i)))
  | [.str x], Q => Q (.val (.str x))
  | _, _ => False
def rStrA : List V → Hp → VK → Prop := fun xs H Q => (∃ i, xs = [.int i] ∧ i.natAbs.log2 < 1920 ∧ Q (.str (toString i)) H) ∨ ∃ a, xs = [.str a] ∧ Q (.str a) H
end VS

/-! VTG: tuple(reversed(tuple)), str(text) -/
namespace RT
open PySem PySem.Spec PyProof.Rows L2
theorem Walks.rt {prog : Program} {w : World} {A : Around} (hh : A.handled = none) (I t : Addr) (hne : t ≠ I) (items : Array Value) (hsz : items.size ≤ sizeLine) :
    Walks prog w A I [I, t] [I] items.size (fun i v => items[items.size - 1 - i]? = some v) (fun i h => i ≤ items.size ∧ IsRt h I t ((items.size : Int) - 1 - (i : Int)) ∧ IsTup h t items) where
  sub := fun b hb => by simp at hb; simp [hb]
  frame := fun _ h h' x hk => ⟨x.1, x.2.1.at fun o e => hk I (by simp) o e, by
    obtain ⟨o, e, r⟩ := x.2.2
    exact ⟨o, hk t (by simp) o e, r⟩⟩
  item := fun i s Q E hi x hQ => by
    have e : (items.size : Int) - 1 - (i : Int) = ((items.size - 1 - i : Nat) : Int) := by omega
    have hit := x.2.1
    rw [e] at hit
    have hx : items[items.size - 1 - i]? = some (items[items.size - 1 - i]'(by omega)) := Array.getElem?_eq_getElem (by omega)
    refine next_rt_item hit x.2.2 hx hsz fun h' hit' hs' => ?_
    have e2 : ((items.size - 1 - i : Nat) : Int) - 1 = (items.size : Int) - 1 - ((i + 1 : Nat) : Int) := by omega
    rw [e2] at hit'
    exact hQ _ h' (s.toks + 1) hx ⟨hi, hit', by
      obtain ⟨o, e, r⟩ := x.2.2
      exact ⟨o, (hs'.2 t hne).trans e, r⟩⟩ fun b o hb eo => (hs'.2 b (fun h => hb (by simp [h]))).trans eo
  done := fun s Q E x hQ => by
    have e : (items.size : Int) - 1 - (items.size : Int) = -1 := by omega
    have hit := x.2.1
    rw [e] at hit
    exact next_rt_end hh hit fun h' he' => hQ h' s.toks fun b o hb eo => he' b o (fun h => hb (by simp [h])) eo
  self := fun _ _ _ _ x hQ => iter_rt x.2.1 hQ
section
variable {prog : Program} {w : World} {A : Around} {E : Value → Shared → Prop} {s : Shared}
end
/-- tuple(reversed(x)), x a tuple: a new tuple -/
def tTupRt (K : PySem.W.Frag) (te : TE) : TE := fun σ H Q => te σ H fun v H1 => ∃ (a : Addr) (xs : List V), v = .ref a ∧ SqT K H1 a xs ∧ ∀ q, H1 q = none → Q (.ref q) (upd H1 q (.tup xs.reverse))
end RT
namespace VS
open PySem PySem.Spec L2
variable {c : Cfg} {pos : Pos}
/-- tuple(reversed(x)), x a tuple -/
def eTupRev (ta : ET) : ET := fun env Q Xq => ta env (fun r e1 => ∃ ds, rd e1 r = some (.tup ds) ∧ Q (.val (.tup ds.reverse)) e1) Xq
end VS

/-! VTH: text[::-1] -/
namespace L2
open PySem PySem.Spec PyProof.Rows
def revS (z : Str) : Str := ⟨z.cps.toList.reverse.toArray⟩
def tRevS (te : TE) : TE := fun σ H Q => te σ H fun x H1 => ∃ z : Str, x = .str z ∧ z.length ≤ sizeLine ∧ Q (.str (revS z)) H1
end L2
namespace VS
open PySem PySem.Spec L2
variable {c : Cfg} {pos : Pos} {a : Expr} {ta : ET}
def eRevS (t : ET) : ET := fun env Q Xq => t env (fun rv e1 => ∃ z : Str, rd e1 rv = some (.str z) ∧ z.length ≤ sizeLine ∧ Q (.val (.str (revS z))) e1) Xq
end VS

/-! WF: cloths turned -/
namespace VN
open PySem VS L2
def colF (k : Nat) : D → D
  | .str s => sgn (s.cps.toList.getD k 0)
  | d => d
def revF : D → D
  | .str s => .str (revS s)
  | d => d
def quart : Way → Bool | .turn => true | .back => true | .cross => true | .other => true | _ => false
def tnH (v : Way) (h w : Nat) : Nat := if quart v = true then w else h
def tnW (v : Way) (h w : Nat) : Nat := if quart v = true then h else w
def frR (v : Way) (h w r c : Int) : Int := match v with
  | .turn => h - 1 - c | .half => h - 1 - r | .back => c | .side => r | .flip => h - 1 - r | .cross => c | .other => h - 1 - c | .stay => r
def frC (v : Way) (h w r c : Int) : Int := match v with
  | .turn => r | .half => w - 1 - c | .back => w - 1 - r | .side => w - 1 - c | .flip => c | .cross => r | .other => w - 1 - r | .stay => c
def tnF (v : Way) (h w : Nat) (f : Cp) : Cp := fun r c => f (frR v h w r c) (frC v h w r c)
def tnD (v : Way) (h w : Nat) (f : Cp) : D := rcD (tnH v h w) (tnW v h w) (tnF v h w f)
end VN
namespace VN
open PySem VS L2
end VN
namespace VN
open PySem VS L2
end VN
namespace VN
open PySem VS L2
end VN

/-! VTI: raise and try by plain values. -/
namespace VS
open PySem PySem.Spec L2

/-! ### what is never come to -/
def sNo : STt := fun _ _ => False
/-! ### raise X('text'), X an own class without __init__ -/
abbrev veBase : List Value := [.type "ValueError", .type "Exception", .type "BaseException", .type "object"]
structure XAt (c : Cfg) (x : Str) (C : Addr) : Prop where
  ns : PySem.W.nsIn c.K mainGlobals x = some (some (.ref C))
  mg : c.mg x = some (.ref C)
  keep : PySem.W.keepIn c.K (.ref C) = true
  exc : PySem.W.excIn c.K C veBase "ValueError.__new__" = true
  sub : PySem.W.subIn c.K (.ref C) (.type "BaseException") = some true
  ty : PySem.W.typeIn c.K (.ref C) = some (.type "type")
def sRaise (x : Str) : STt := fun D env => D.xq ⟨x, []⟩ env
/-! ### a caught exception is tracked -/
/-- the ends behind a suite whose name's slot goes -/
def goneD (i : Nat) (D : Ends) : Ends := { nx := fun σ H => D.nx (σ.set i none) H, rt := D.rt, bk := fun σ H => D.bk (σ.set i none) H, ct := fun σ H => D.ct (σ.set i none) H }
/-- the wish of 'except x as n' of what the body lets out -/
def wTrk (K : PySem.W.Frag) (c : Value) (i : Nat) (ts : TS) (Wout : WX) (D : Ends) : WX := fun cls d σ H =>
  ∃ b, PySem.W.exmOne K cls c = some b ∧ (b = true → ∃ C, cls = .ref C ∧ ∀ a, H a = none → ts (goneD i D) (σ.set i (some (.ref a))) (upd H a (exO C d a))) ∧ (b = false → Wout cls d σ H)
section
variable {X : Cx} {x n : Str} {c : Value} {i : Nat} {body suite : List Stmt} {b₀ : Stmt} {np pos pos' : Pos} {tb : WX → TS} {ts : TS} {Wout : WX}
end

/-! ### try by plain values -/
/-- within an except suite -/
def suC (c : Cfg) : Cfg := { c with calm := false }
def NamesC (c : Cfg) (x : Str) (v : Value) : Prop := GlC c x ∧ (x == ("__debug__" : Str)) = false ∧ (c.mg x = some v ∨ (c.mg x = none ∧ bootBuiltins x = some v ∧ x ≠ "__name__"))
theorem NamesC.names {c : Cfg} {X : Cx} {x : Str} {v : Value} (h : NamesC c x v) (g : Good c X) : Names X x v := ⟨GlC.gl g h.1, h.2.1, by rw [g.mg]; exact h.2.2⟩
/-- what a class in an except clause says to the classes of the errors that may come -/
def ExmC (c : Cfg) (v : Value) (isC : Str → Option Bool) : Prop := ∀ y b C, isC y = some b → PySem.W.nsIn c.K mainGlobals y = some (some (.ref C)) → PySem.W.exmOne c.K (.ref C) v = some b
def noS : RV → Bool
  | .slot _ => false
  | _ => true
def goneE (i : Nat) (D : EndsD) : EndsD := { nx := fun e => D.nx (e.set i .emp), rt := fun r e => noS r = true ∧ D.rt r (e.set i .emp), bk := fun e => D.bk (e.set i .emp), ct := fun e => D.ct (e.set i .emp), xq := noX }
def sTryAs (isC : Str → Option Bool) (i : Nat) (tb ts : STt) : STt := fun D env =>
  tb { D with xq := fun xd e => ∃ b, isC xd.cls = some b ∧ if b = true then ts (goneE i D) (e.set i (.val (.exc xd.cls xd.fs))) else D.xq xd e } env
def sTryOnly (isC : Str → Option Bool) (tb ts : STt) : STt := fun D env =>
  tb { D with xq := fun xd e => ∃ b, isC xd.cls = some b ∧ if b = true then ts { D with xq := noX } e else D.xq xd e } env
section
variable {c c' : Cfg} {G G' B H : Hp} {σ σ' : St} {env env' : Env} {i : Nat} {v : V} {rv : RV}
end
theorem Good.tr {c : Cfg} {X : Cx} (g : Good c X) (pn : List (Addr × Obj)) (xe : Value → Shared → Prop) (po : PassesOwn (model X.prog X.w) X.A X.env xe) : Good c (X.tr pn xe) :=
  ⟨g.prog, g.w, g.K, g.mg, g.base, g.N, g.nd, g.scope, g.fn, g.roomH, g.calmH, po, g.stk⟩
theorem Good.suite {c : Cfg} {X : Cx} (g : Good c X) (a : Addr) (pn : List (Addr × Obj)) : Good (suC c) (X.suite a pn) :=
  ⟨g.prog, g.w, g.K, g.mg, g.base, g.N, g.nd, g.scope, g.fn, ⟨g.roomH.dp, g.roomH.un⟩, fun z => Bool.noConfusion (show false = true from z), PassesOwn.never, g.stk⟩
end VS

/-! VTJ: isinstance(e, C) and e.f of a caught exception; the facts of a law's classes. -/
namespace VS
open PySem PySem.Spec L2

/-- what is said of a class whose errors are asked by isinstance, or for their fields -/
structure ExcF (K : PySem.W.Frag) (C : Addr) : Prop where
  ga : PySem.W.findIn K (.ref C) "__getattribute__" = some (some (.builtin "BaseException.__getattribute__"))
  gg : PySem.W.findIn K (.ref C) "__getattr__" = some none
  sub : PySem.W.subIn K (.ref C) (.type "BaseException") = some true
  ca : PySem.W.findIn K (.ref C) "__class__" = some (some (.builtin "object.__class__"))
  cn : PySem.W.specialIn K (.builtin "object.__class__") "__get__" = some (some (.builtin "getset_descriptor.__get__"))
  ct : PySem.W.takesIn K (.builtin "object.__class__") = some true
  mr : PySem.W.mroIn K C (.type "object") = some true
  hd : PySem.W.hasDictIn K C = true
theorem ExcF.cl {K : PySem.W.Frag} {C : Addr} (F : ExcF K C) : (PySem.W.clsIn K C).isSome = true := by
  obtain ⟨cd, hc, _⟩ := PySem.W.any_some F.hd
  rw [hc]; rfl
/-- a class that except clauses and isinstance name: what it says to the law's own errors -/
structure ECls (c : Cfg) (x : Str) (isC : Str → Option Bool) : Prop where
  ex : ∃ v vv, ClsV vv v ∧ (c.mg x = some v ∨ (c.mg x = none ∧ bootBuiltins x = some v ∧ x ≠ "__name__")) ∧ PySem.W.kitOne c.K (.type "NoneType") v = some false ∧
    ∀ y b, isC y = some b → ∃ C, PySem.W.nsIn c.K mainGlobals y = some (some (.ref C)) ∧ PySem.W.exmOne c.K (.ref C) v = some b ∧ PySem.W.kitOne c.K (.ref C) v = some b ∧ ExcF c.K C
theorem ECls.cfg {c c' : Cfg} {x : Str} {isC : Str → Option Bool} (h : ECls c x isC) (h1 : c'.K = c.K) (h2 : c'.mg = c.mg) : ECls c' x isC := by
  obtain ⟨v, vv, k, m, n, z⟩ := h.ex
  exact ⟨v, vv, k, by rw [h2]; exact m, by rw [h1]; exact n, by rw [h1]; exact z⟩
structure XCls (c : Cfg) (x : Str) : Prop where
  ex : ∃ C, XAt c x C
section
variable {c : Cfg} {k : Nat} {N : List Str} {sc : Scope} {x : Str} {i : Nat} {isC : Str → Option Bool}
theorem ECls.inn (h : ECls c x isC) : ECls (c.inn k N sc) x isC := h.cfg rfl rfl
theorem XCls.inn (h : XCls c x) : XCls (c.inn k N sc) x := by
  obtain ⟨C, h⟩ := h.ex
  exact ⟨C, h.ns, h.mg, h.keep, h.exc, h.sub, h.ty⟩
end
/-! ### isinstance(e, C) -/
def rIsX (K : PySem.W.Frag) : List V → Hp → VK → Prop := fun xs H Q => ∃ x vv cv b, xs = [x, vv] ∧ ClsV vv cv ∧ ((x = .non ∧ PySem.W.kitOne K (.type "NoneType") cv = some b) ∨
    ∃ a C d fs, x = .ref a ∧ H a = some (exO C d a) ∧ XF H d fs ∧ ExcF K C ∧ PySem.W.kitOne K (.ref C) cv = some b) ∧ Q (.bl b) H
def opIsX (isC : Str → Option Bool) : D → (RV → Prop) → Prop
  | .exc y _, Q => ∃ b, isC y = some b ∧ Q (.val (.bl b))
  | .non, Q => Q (.val (.bl false))
  | _, _ => False
theorem ClsV.rel {vv : V} {v : Value} (k : ClsV vv v) : RelV vv v := by
  cases k with
  | ty n => rfl
  | own C => rfl
end VS

/-! WG: the nearest movement -/
namespace VS
theorem ite_mid {b : Bool} {a c : STt} {D : EndsD} {e : Env} (R : Env → Prop) (hR : ∀ e', R e' → D.nx e') (ha : b = true → ∀ K : Env → Prop, (∀ e', R e' → K e') → a { D with nx := K } e)
    (hb : b = false → ∀ K : Env → Prop, (∀ e', R e' → K e') → c { D with nx := K } e) : (fun (k : Bool) (e : Env) => if k = true then a D e else c D e) b e := by
  cases b with
  | true => exact ha rfl D.nx hR
  | false => exact hb rfl D.nx hR
theorem ite_e {p : Prop} [Decidable p] {A C : Env → Prop} {e : Env} (h1 : p → A e) (h2 : ¬ p → C e) : (fun (k : Bool) (e : Env) => if k = true then A e else C e) (decide p) e := by
  by_cases h : p
  · show if decide p = true then A e else C e
    rw [if_pos (decide_eq_true h)]; exact h1 h
  · show if decide p = true then A e else C e
    rw [if_neg (by rw [decide_eq_false h]; decide)]; exact h2 h
end VS
namespace VN
open VS PySem PySem.W
def nrD (n : Nat) (f g : Cp) (m : Mv) : D := .tup [.int ((diffL n (movF n m f) g).length : Int), dM m, .lst ((diffL n (movF n m f) g).map dP)]
/-- a movement that leaves the fewest places unlike -/
def NearM (n : Nat) (f g : Cp) (m : Mv) : Prop := m.ok n ∧ ∀ m' : Mv, m'.ok n → (diffL n (movF n m f) g).length ≤ (diffL n (movF n m' f) g).length
end VN

/-! VTK: raise X(e), X an own class whose own __init__ calls its base's and keeps one field; e.f of a caught exception. -/
namespace VS
open PySem PySem.Spec L2

/-- what is said of a base class whose __init__ is ValueError's -/
structure BAt (c : Cfg) (x : Str) (B : Addr) : Prop where
  mg : c.mg x = some (.ref B)
  ga : PySem.W.specialIn c.K (.ref B) "__getattribute__" = some (some (.builtin "type.__getattribute__"))
  ty : PySem.W.typeIn c.K (.ref B) = some (.type "type")
  rd : PySem.W.readsIn c.K B (.type "type") = true
  fi : PySem.W.findCls c.K (.ref B) (.type "type") "__init__" = some (.val (.builtin "ValueError.__init__"))
/-- B.__init__(self, ..) -/
theorem pe_binit {X : Cx} {c : Cfg} {x : Str} {B : Addr} {e : Expr} {es : List Expr} {ta : TA} {p1 p2 pos : Pos} {pl : Sem Bool} (g : Good c X) (h : BAt c x B) (hg : Gl X x) (hd : (x == ("__debug__" : Str)) = false) (ha : PA X (e :: es) ta)
    (hc : eval (.Call (.Attribute (.Name x p1) "__init__" p2) (e :: es) [] pos) X.env = (do
      let ov ← eval (.Name x p1) X.env
      standAt p2.atName
      let (f, first) ← holding [ov] (getMethod ov "__init__" pl)
      callWith pos f first (backTo pos (starEach (e :: es) X.env)) (backToKw pos (keywordEach [] X.env))) := by rfl)
    (he : starEach (e :: es) X.env = (false, eval e X.env) :: starEach es X.env := by rfl) (hpl : (backTo pos (starEach es X.env)).any (·.1) = false := by rfl) :
    PE X (.Call (.Attribute (.Name x p1) "__init__" p2) (e :: es) [] pos) (tVeI X.K ta) := by
  refine ⟨fun pins s σ H Q I q => ?_⟩
  refine PySem.W.methodCall_KW (ld_glob I hg (by rw [g.mg]; exact h.mg) ?_ hd) hc
  obtain ⟨m, fr⟩ := I.fr
  refine PySem.W.method_of_cls fr I.ok.mod.kin (by rw [g.K]; exact h.ga) ?_
  refine PySem.W.cls_val fr I.ok.mod.kin (by rw [g.K]; exact h.ty) (by rw [g.K]; exact h.rd) (by rw [g.K]; exact h.fi) (by decide +kernel) ?_
  show wpAny _ _ (callWith pos (Value.builtin "ValueError.__init__") [] (backTo pos (starEach (e :: es) X.env)) []) _ _ _
  refine PyProof.Rows.callWith_method1 (thn (ha.run pos pins _ σ H _ (I.tok _) q) fun us s1 ⟨vs, H1, I1, r1, a, C, ws, ev, hl, T, ea, q1⟩ => ?_) he hpl
  subst ev
  cases r1 with
  | @cons _ u0 _ ur ra rw' =>
    obtain rfl : u0 = Value.ref a := ra
    have hlen : ur.length ≤ sizeLine := by
      rw [← Paired.length rw', sizeLine_eq]
      omega
    exact oinit_ok T I1 ea hlen fun s' J => ⟨.non, H1, J, rfl, q1⟩
/-- what such an __init__ does -/
def spI (C : Addr) (f : Str) : Sp := fun vs H Q _ => ∃ a v, vs = [.ref a, v] ∧ H a = some (exo a C none) ∧ ∀ dx, H dx = none → dx ≠ a → Q .non (upd (upd H dx (exd dx [(f, v)])) a (exo a C (some dx)))
theorem init_ok {c : Cfg} {y f qual : Str} {m : Str} {C fI : Addr} {fd : FuncData} {st : Stmt} {k : Nat} (Fu : Fun c.K "__init__" qual st fI fd) (S : FnScope ["self", y] ["self", y] (defScope st)) (T : OexC c.K C) (hno : PySem.W.findIn c.K (.ref C) f = some none)
    (hb : ∀ X, Good (c.inn k ["self", y] (defScope st)) X → PSs X (defBody st) (tSeq (tDrop (tVeI X.K (tCons (tVar 0) (tCons (tC (.str m)) tNil)))) (tOst X.K f (tVar 0) (tVar 1)))) :
    FnOk c.P c.w c.K c.mg c.base (L2.CX c.P c.w) (k + 1) fI fd ["self", y] (spI C f) := by
  refine Fu.okX S (fun vs H Q E ⟨a, v, e, _⟩ => by rw [e]; rfl) (fun cdv A outer s H vs Q E hr ⟨a, v, ev, ea, q⟩ => ?_)
  have g : Good (c.inn k ["self", y] (defScope st)) (cxOf (L2.CX c.P c.w) c.P c.w c.K c.mg c.base ["self", y] qual (defScope st) fI cdv A outer s H E) := ⟨rfl, rfl, rfl, rfl, rfl, rfl, S.nd, rfl, rfl, L2H.roomH_of hr, (fun _ => ⟨rfl, hr.hd⟩), passes_of rfl, fun _ => ⟨rfl, rfl, rfl⟩⟩
  refine ⟨_, hb _ g, ?_⟩
  subst ev
  refine ⟨_, rfl, a, C, [.str m], rfl, (by show 1 ≤ 1000; omega), T, ea, ?_⟩
  refine ⟨_, rfl, _, rfl, a, C, rfl, T, hno, .inl ⟨ea, fun dx h1 h2 => q dx h1 h2⟩⟩

/-- an own class with own __init__ of one field, to be raised -/
structure XICls (c : Cfg) (x f : Str) : Prop where
  ex : ∃ C fI y fd, PySem.W.nsIn c.K mainGlobals x = some (some (.ref C)) ∧ c.mg x = some (.ref C) ∧ OexC c.K C ∧ PySem.W.findIn c.K (.ref C) "__init__" = some (some (.ref fI)) ∧ PySem.W.typeIn c.K (.ref fI) = some (.type "function") ∧
    FnOk c.P c.w c.K c.mg c.base (L2.CX c.P c.w) 1 fI fd ["self", y] (spI C f) ∧ Binds c.K fd ["self", y] []
theorem XICls.inn {c : Cfg} {x f : Str} {k : Nat} {N : List Str} {sc : Scope} (h : XICls c x f) : XICls (c.inn k N sc) x f := ⟨h.ex⟩
def sRaiseI (x f : Str) (t : ET) : STt := fun D env => t env (fun rv e1 => ∃ d, rv = .val d ∧ D.xq ⟨x, [(.str f, d)]⟩ e1) D.xq
theorem vs_raiseI {c : Cfg} {x f : Str} {e : Expr} {t : ET} {p p3 pos : Pos} (h : XICls c x f) (hg : GlC c x) (hd : (x == ("__debug__" : Str)) = false) (he : VE c e t) (hk : 2 ≤ c.k) (hn : noStar e = true := by rfl) (hc : c.calm = true := by rfl) :
    VS1 c (.Raise (some (.Call (.Name x p) [e] [] p3)) none pos) (sRaiseI x f t) := by
  obtain ⟨C, fI, y, fd, hns, hmg, T, iC, tI, F1, hb⟩ := h.ex
  constructor
  intro X g G B H σ env D E q tk
  refine TUs.of (ps_raise (g.calm hc) tk (pmk_oex (CX := L2.CX X.prog X.w) (ds := []) (dvs := []) (k := 1) (fd := fd) (ps := ["self", y]) (sp := spI C f) (by rw [g.K]; exact T) (by rw [g.K]; exact iC) (by rw [g.K]; exact tI) (by rw [g.prog, g.w, g.K, g.mg, g.base]; exact F1)
    ((g.room hc).mono hk) (by rw [g.K]; exact hb) .nil (passes_call tk fun _ _ _ _ z => z.elim) (GlC.gl g hg) (by rw [g.mg]; exact hmg) (pa_cons (pe_tu (X := X) (e := e)) pa_nil (star_cons hn)) hd (star_cons hn) rfl)) ?_
  refine (he.run X g G B H σ env _ D.xq E q tk).imp fun v H1 ⟨rv, e1, G1, ⟨d, erv, qx⟩, E1, x1, k1, r1⟩ => ?_
  subst erv
  refine ⟨(by show 1 ≤ 1000; omega), fun a na => ⟨a, v, rfl, upd_same, fun dx n1 n2 => ⟨rfl, dx, [(f, v)], upd_same, ?_, ?_, ?_⟩⟩⟩
  · rw [upd_ne n2, upd_same]
  · rw [upd_ne n2] at n1
    exact n1
  · have nd : H1 dx = none := by
      rw [upd_ne n2] at n1
      exact n1
    have e3 : upd (del (upd (upd (upd H1 a (exo a C none)) dx (exd dx [(f, v)])) a (exo a C (some dx))) a) dx (.xd [(f, v)]) = upd H1 dx (.xd [(f, v)]) := by
      funext b
      by_cases h1 : b = dx
      · rw [h1, upd_same, upd_same]
      · rw [upd_ne h1, upd_ne h1]
        by_cases h2 : b = a
        · rw [h2, del_same, na]
        · rw [del_ne h2, upd_ne h2, upd_ne h1, upd_ne h2]
    rw [e3]
    have ng : G1 dx = none := by
      cases z : G1 dx with
      | none => rfl
      | some o =>
        rw [E1.gh _ _ z] at nd
        cases nd
    have xa : Ext B G1 (upd G1 dx (.xd [(f, v)])) := ⟨same_new ng, fun b h => by
      by_cases hba : b = dx
      · rw [hba]
        exact .inr (Nu.of (E1.bh.free nd))
      · rw [upd_ne hba] at h
        exact .inl h⟩
    have R : Res G1 H1 (upd G1 dx (.xd [(f, v)])) (upd H1 dx (.xd [(f, v)])) := ⟨same_new nd, same_new ng, fun b u h => by
      by_cases hba : b = dx
      · rw [hba, upd_same] at h ⊢
        exact h
      · rw [upd_ne hba] at h ⊢
        exact E1.gh _ _ h, fun b h => by
      by_cases hba : b = dx
      · rw [hba]
        exact .inr (Nu.of nd)
      · rw [upd_ne hba] at h
        exact .inl h⟩
    exact ⟨⟨x, [(.str f, d)]⟩, e1, _, qx, E1.go R, x1.trans xa, k1.bors σ, C, rfl, hns, [(f, v)], .inr ⟨dx, rfl, upd_same⟩, .cons (Rep.mono (same_new ng) r1) .nil⟩

/-! ### e.f -/
/-- the field f of the errors of the classes that isF tells -/
structure EFld (c : Cfg) (f : Str) (isF : Str → Bool) : Prop where
  ex : ∀ y, isF y = true → ∃ C, PySem.W.nsIn c.K mainGlobals y = some (some (.ref C)) ∧ PySem.W.findIn c.K (.ref C) f = some none ∧ ExcF c.K C
theorem EFld.inn {c : Cfg} {f : Str} {isF : Str → Bool} {k : Nat} {N : List Str} {sc : Scope} (h : EFld c f isF) : EFld (c.inn k N sc) f isF := ⟨h.ex⟩
def fldD (f : Str) : List (D × D) → Option D
  | [] => none
  | (k, d) :: r => if k = .str f then some d else fldD f r
def opFld (f : Str) (isF : Str → Bool) : D → (RV → Prop) → Prop
  | .exc y fs, Q => isF y = true ∧ ∃ d, fldD f fs = some d ∧ Q (.val d)
  | _, _ => False
def rFld (K : PySem.W.Frag) (f : Str) : V → Hp → VK → Prop := fun x H Q => ∃ a C d fs v, x = .ref a ∧ H a = some (exO C d a) ∧ XF H d fs ∧ ExcF K C ∧ PySem.W.findIn K (.ref C) f = some none ∧ fs.lookup f = some v ∧ Q v H
end VS
namespace VS
open PySem PySem.Spec L2
def clsBody : Stmt → Nat → Stmt
  | .ClassDef _ _ _ body .., i => body.getD i (.Pass ⟨0, 0, 0, 0⟩)
  | _, _ => .Pass ⟨0, 0, 0, 0⟩
theorem pe_vis {X : Cx} {c : Cfg} {i : Nat} {x : Str} {pos : Pos} (g : Good c X) (h : VisC c i x) : PE X (.Name x pos) (tVar i) := pe_var (by rw [g.N]; exact h.1) (by rw [g.scope]; exact h.2.1) h.2.2.1 h.2.2.2
theorem BAt.inn {c : Cfg} {x : Str} {B : Addr} {k : Nat} {N : List Str} {sc : Scope} (h : BAt c x B) : BAt (c.inn k N sc) x B := ⟨h.mg, h.ga, h.ty, h.rd, h.fi⟩
end VS

/-! VTL: len(set(ints)); texts, tuples and lists times ints. -/
namespace VS
open PySem PySem.Spec L2

/-! ### len(set(x)), x a list of ints -/
def nSet (ns : List Int) : Nat := (PyProof.Rows.firstMet (fun i => ns.getD i 0) ns.length).length
def rLenSet (K : PySem.W.Frag) : V → Hp → VK → Prop := fun x H Q => ∃ (l : Addr) (ns : List Int), x = .ref l ∧ SqL K H l (ns.map V.int) ∧ ns.length ≤ 4000 ∧ Q (.int (nSet ns : Nat)) H
def opLenSet : D → (RV → Prop) → Prop
  | .lst xs, Q => ∃ ns : List Int, xs = ns.map D.int ∧ ns.length ≤ 4000 ∧ Q (.val (.int (nSet ns : Nat)))
  | _, _ => False
/-! ### texts, tuples, lists times ints -/
def timesS (x : Str) (n : Int) : Str := ⟨(List.replicate n.toNat x.cps.toList).flatten.toArray⟩
def rMulS : R2 := fun x y H Q => ∃ (a : Str) (n : Int), x = .str a ∧ y = .int n ∧ 1 ≤ n ∧ n ≤ 1000 ∧ a.length ≤ 1000 ∧ Q (.str (timesS a n)) H
def opMulA : D → D → (RV → Prop) → Prop
  | .int i, .int j, Q => mulOk i j ∧ Q (.val (.int (i * j)))
  | .str a, .int n, Q => 1 ≤ n ∧ n ≤ 1000 ∧ a.length ≤ 1000 ∧ Q (.val (.str (timesS a n)))
  | .tup xs, .int n, Q => xs ≠ [] ∧ 2 ≤ n ∧ n ≤ 1000 ∧ xs.length ≤ 1000 ∧ Q (.val (.tup (List.replicate n.toNat xs).flatten))
  | _, _, _ => False
theorem RepL.rep {K : PySem.W.Frag} {w : World} {G : Hp} {vs : List V} {ds : List D} (h : RepL K w G vs ds) : ∀ n : Nat, RepL K w G (List.replicate n vs).flatten (List.replicate n ds).flatten
  | 0 => .nil
  | n + 1 => by
    rw [List.replicate_succ, List.replicate_succ, List.flatten_cons, List.flatten_cons]
    exact h.append (RepL.rep h n)
/-- [e, ..] * k -/
def eRepL (ta tb : ET) : ET := fun env Q Xq => ta env (fun ra e1 => tb e1 (fun rb e2 => ∃ ds k, ra.hold = .val (.lst ds) ∧ rd e2 rb = some (.int k) ∧ 0 ≤ k ∧ k ≤ 1000000 ∧ ds.length * k.toNat ≤ 1000000 ∧ Q (.fr (.lst (List.replicate k.toNat ds).flatten)) e2) Xq) Xq
end VS

/-! WH: cloths as texts; what a cloth is -/
namespace VN
open VS PySem PySem.W
abbrev abcS : Str := "abcdefghijklmnopqrstuvwxyz"
abbrev slS : Str := "/"
def rowOk (x : Str) : Bool := decide (1 ≤ x.length) && (decide (x.length ≤ 24) && x.cps.toList.all fun ch => decide (ch ∈ abcS.cps.toList))
def isRowD : D → Bool
  | .str s => rowOk s
  | _ => false
def lenD : D → Int
  | .str s => (s.length : Int)
  | _ => 0
def isClothD : D → Bool
  | .tup xs => decide (1 ≤ xs.length) && (decide (xs.length ≤ 24) && (xs.all isRowD && decide (nSet (xs.map lenD) = 1)))
  | _ => false
/-- what may be asked -/
def askD : D → Prop
  | .ty _ => False
  | .kdic _ => False
  | .exc _ _ => False
  | .str s => s.length ≤ 100000
  | _ => True
def askC : D → Prop
  | .ty _ => False
  | .kdic _ => False
  | .exc _ _ => False
  | .ktup _ => False
  | .tup xs => ∀ x ∈ xs, askD x
  | .str s => s.length ≤ 100000
  | _ => True
def clothOf : D → Option (List Str)
  | .str s => if isClothD (.tup ((Txt.split s slS).map D.str)) = true then some (Txt.split s slS) else none
  | _ => none
/-! texts joined are split again -/
/-! what a cloth is, by its rows -/
def goodR (R : List Str) : Prop := 1 ≤ R.length ∧ R.length ≤ 24 ∧ ∀ r ∈ R, rowOk r = true ∧ r.length = (R.headD ⟨#[]⟩).length
end VN
namespace VN
open VS PySem PySem.W
end VN
namespace VN
open VS PySem PySem.W
end VN
namespace VN
open VS PySem PySem.W
def rowsOf (h w : Nat) (f : Cp) : List Str := (List.range h).map fun r => rowS w (f (r : Nat))
end VN

/-! WI: cloths compared; what a cloth is, of any rows -/
namespace VN
open VS PySem PySem.W
end VN

/-! WJ: papers of chosen colours (mended towards) -/
namespace VN
open PySem VS PySem.W
noncomputable def SMG (n : Nat) (L : List Mv) (G : Pl → Nat) : List (Pl × Nat) := (rootsL n L).map fun p => (p, G p)
noncomputable def papG (n : Nat) (L : List Mv) (f : Cp) (G : Pl → Nat) : D := .lst ((SMG n L G).map (rowD n L f))
noncomputable def menG (n : Nat) (L : List Mv) (f : Cp) (G : Pl → Nat) : D := .tup [cpD n (hF n L G), .lst ((diffL n (hF n L G) f).map dP), papG n L f G]
def okGP (G : Pl → Nat) : Prop := ∀ p, G p < 1114112
def IsMode (cs : List Nat) (y : Nat) : Prop := y ∈ cs ∧ (cs.count y : Int) = modeM cs (modeX cs)
open Classical in
noncomputable def towG (n : Nat) (L : List Mv) (f g : Cp) : Pl → Nat := fun p => if IsMode (colsL f (circP n L p)) (g p.1 p.2) then g p.1 p.2 else modeX (colsL f (circP n L p))
def movsB (n : Nat) (g : Cp) (m : Mv) : Prop := cpD n (movF n m g) = cpD n g
instance {n : Nat} {g : Cp} {m : Mv} : Decidable (movsB n g m) := by unfold movsB; exact inferInstance
def badQ (n : Nat) (g : Cp) (L : List Mv) : D → Bool
  | .int k => match L[k.toNat]? with
    | some m => decide (¬ movsB n g m)
    | none => false
  | _ => false
def updP (g : Cp) (p : Pl) (y : Nat) : Cp := fun r c => if ((r, c) : Pl) = p then y else g r c
end VN

/-! WK: carpets counted: rounds run, carpets as lists of figures -/
namespace VN
open PySem VS PySem.W
/-! rounds, run -/
def orbC (n : Nat) (m : Mv) : Nat → List Pl → Pl → List Pl
  | 0, _, _ => []
  | k + 1, S, p => if p ∈ S then [] else p :: orbC n m k (S ++ [p]) (ledP n p m)
def rndS (n : Nat) (m : Mv) (x : List (List Pl) × List Pl) (p : Pl) : List (List Pl) × List Pl :=
  if p ∈ x.2 then x else (x.1 ++ [orbC n m (n * n + 1) x.2 p], x.2 ++ orbC n m (n * n + 1) x.2 p)
def rndX (n : Nat) (m : Mv) (ps : List Pl) : List (List Pl) × List Pl := ps.foldl (rndS n m) ([], [])
def rndC (n : Nat) (m : Mv) : List (List Pl) := (rndX n m (allP n)).1
structure Sn (n : Nat) (S : List Pl) : Prop where
  nd : S.Nodup
  inn : ∀ p ∈ S, p ∈ allP n
theorem Sn.nil {n : Nat} : Sn n [] := ⟨by simp, by simp⟩
theorem Sn.len {n : Nat} {S : List Pl} (h : Sn n S) : S.length ≤ n * n := by
  rw [← allP_len n]
  exact h.nd.length_le_of_subset fun p hp => h.inn p hp
theorem Sn.add {n : Nat} {S : List Pl} (h : Sn n S) {p : Pl} (hp : p ∈ allP n) (hn : p ∉ S) : Sn n (S ++ [p]) :=
  ⟨List.nodup_append.mpr ⟨h.nd, by simp, fun a ha b hb e => hn (by rw [List.mem_singleton] at hb; rw [← hb, ← e]; exact ha)⟩, fun q hq => by
    rcases List.mem_append.mp hq with z | z
    · exact h.inn q z
    · rw [List.mem_singleton.mp z]; exact hp⟩
/-! carpets as lists of figures -/
def dig (n : Nat) (w : List Nat) : Cp := fun r c => 97 + w.getD (n * r + c).toNat 0
def dW (n : Nat) (w : List Nat) : D := cpD n (dig n w)
def lexL (c : Nat) : Nat → List (List Nat)
  | 0 => [[]]
  | m + 1 => (lexL c m).flatMap fun w => (List.range c).map fun j => w ++ [j]
def strW (w : List Nat) : Str := ⟨(w.map fun d => 97 + d).toArray⟩
def srcW (n : Nat) (m : Mv) (q : Nat) : Nat := (n * lR n (inv n m).w (inv n m).d (q / n : Nat) (q % n : Nat) + lC n (inv n m).w (inv n m).r (q / n : Nat) (q % n : Nat)).toNat
def movW (n : Nat) (m : Mv) (w : List Nat) : List Nat := (List.range (n * n)).map fun q => w.getD (srcW n m q) 0
theorem movW_len (n : Nat) (m : Mv) (w : List Nat) : (movW n m w).length = n * n := by unfold movW; simp
theorem dW_mov {n : Nat} (m : Mv) (w : List Nat) : cpD n (movF n m (dig n w)) = dW n (movW n m w) := cp_ext.mpr fun r c h0 h1 h2 h3 => by
  unfold movF dig movW
  obtain ⟨i, rfl⟩ := Int.eq_ofNat_of_zero_le h0
  obtain ⟨j, rfl⟩ := Int.eq_ofNat_of_zero_le h2
  have hi : i < n := by omega
  have hj : j < n := by omega
  have e : ((n : Int) * (i : Int) + (j : Int)).toNat = n * i + j := by
    rw [← Int.natCast_mul, ← Int.natCast_add, Int.toNat_natCast]
  rw [e]
  have hlt : n * i + j < n * n := by
    have : n * i + n ≤ n * n := by rw [← Nat.mul_succ]; exact Nat.mul_le_mul (Nat.le_refl n) hi
    omega
  have e1 : (n * i + j) / n = i := by
    rw [Nat.mul_add_div (by omega), Nat.div_eq_of_lt hj, Nat.add_zero]
  have e2 : (n * i + j) % n = j := by
    rw [Nat.mul_add_mod, Nat.mod_eq_of_lt hj]
  congr 1
  rw [List.getD_eq_getElem?_getD (l := List.map _ _), List.getElem?_map, List.getElem?_range hlt]
  simp only [Option.map_some, Option.getD_some]
  unfold srcW
  rw [e1, e2]
theorem dW_inj {n : Nat} {a b : List Nat} (ha : a.length = n * n) (hb : b.length = n * n) (h : dW n a = dW n b) : a = b := by
  refine List.ext_getElem (by omega) fun q h1 h2 => ?_
  have hn : 0 < n := by
    rcases Nat.eq_zero_or_pos n with z | z
    · subst z; omega
    · exact z
  have hq : q < n * n := by omega
  have hd : q / n < n := Nat.div_lt_of_lt_mul hq
  have hm : q % n < n := Nat.mod_lt q hn
  have e := (cp_ext.mp h) ((q / n : Nat) : Int) ((q % n : Nat) : Int) (Int.natCast_nonneg _) (Int.ofNat_lt.mpr hd) (Int.natCast_nonneg _) (Int.ofNat_lt.mpr hm)
  unfold dig at e
  have e1 : ((n : Int) * ((q / n : Nat) : Int) + ((q % n : Nat) : Int)).toNat = q := by
    rw [← Int.natCast_mul, ← Int.natCast_add, Int.toNat_natCast]
    exact Nat.div_add_mod q n
  rw [e1] at e
  rw [List.getD_eq_getElem?_getD, List.getElem?_eq_getElem h1, List.getD_eq_getElem?_getD, List.getElem?_eq_getElem h2] at e
  simp only [Option.getD_some] at e
  omega
/-! the met ones -/
def insW (F : List (List Nat)) (x : List Nat) : List (List Nat) := if x ∈ F then F else F ++ [x]
def orbW (n : Nat) (F : List (List Nat)) (w : List Nat) (ms : List Mv) : List (List Nat) := ms.foldl (fun F m => insW F (movW n m w)) F
def manS (n : Nat) (x : Nat × List (List Nat)) (w : List Nat) : Nat × List (List Nat) := if w ∈ x.2 then x else (x.1 + 1, orbW n x.2 w (allW n))
def manX (n : Nat) (ws : List (List Nat)) : Nat × List (List Nat) := ws.foldl (manS n) (0, [])
def manB (n c : Nat) : Nat := (manX n (lexL c (n * n))).1
def Ln (n : Nat) (F : List (List Nat)) : Prop := ∀ w ∈ F, w.length = n * n
theorem Ln.ins {n : Nat} {F : List (List Nat)} (h : Ln n F) {x : List Nat} (hx : x.length = n * n) : Ln n (insW F x) := by
  unfold insW
  split
  · exact h
  · intro w hw
    rcases List.mem_append.mp hw with z | z
    · exact h w z
    · rw [List.mem_singleton.mp z]; exact hx
/-- carpets as keys -/
def kW (n : Nat) (w : List Nat) : D := if w.length = n * n then dW n w else .lst (w.map fun d => .int (d : Nat))
/-! the numbers -/
def cntT (n c : Nat) : Nat := ((allM n).map fun m => c ^ (rndC n m).length).sum
def cntB (n c : Nat) : Nat := cntT n c / (8 * (n * n))
def pairs : List (Nat × Nat) := ((List.range 26).map fun k => (1, k + 1)) ++ [(2, 1), (2, 2), (2, 3), (3, 1)]
def unW : D → List Nat
  | .str s => s.cps.toList.map fun d => d - 97
  | _ => []
open Classical in
noncomputable def onM (g : Mv → D) (d : D) : D := if h : ∃ m, d = dM m then g (Classical.choose h) else .non
/-- the pairs that are asked -/
structure PairOk (q : Nat × Nat) : Prop where
  n0 : 0 < q.1
  n3 : q.1 ≤ 3
  c0 : 0 < q.2
  c26 : q.2 ≤ 26
  lx : ∀ k, k ≤ q.1 * q.1 → (lexL q.2 k).length ≤ 100
  eq : cntB q.1 q.2 = manB q.1 q.2
/-- pairs as keys -/
def kP (q : Nat × Nat) : D := .tup [.int (q.1 : Nat), .int (q.2 : Nat)]
end VN

/-! WL: rounds counted by figures; the counts are whole -/
namespace VN
open PySem VS PySem.W
def stepN (n : Nat) (m : Mv) (p : Nat) : Nat := (lR n m.w m.d (p / n : Nat) (p % n : Nat)).toNat * n + (lC n m.w m.r (p / n : Nat) (p % n : Nat)).toNat
def codeP (n : Nat) (p : Pl) : Nat := p.1.toNat * n + p.2.toNat
theorem codeP_dm {n : Nat} {p : Pl} (hp : p ∈ allP n) : ((codeP n p / n : Nat) : Int) = p.1 ∧ ((codeP n p % n : Nat) : Int) = p.2 := by
  obtain ⟨h0, h1, h2, h3⟩ := mem_allP.mp hp
  unfold codeP
  have hc : p.2.toNat < n := by omega
  constructor
  · rw [Nat.mul_comm, Nat.mul_add_div (by omega), Nat.div_eq_of_lt hc, Nat.add_zero]
    omega
  · rw [Nat.mul_comm, Nat.mul_add_mod, Nat.mod_eq_of_lt hc]
    omega
theorem codeP_inj {n : Nat} {p q : Pl} (hp : p ∈ allP n) (hq : q ∈ allP n) (h : codeP n p = codeP n q) : p = q := by
  obtain ⟨a1, a2⟩ := codeP_dm hp
  obtain ⟨b1, b2⟩ := codeP_dm hq
  rw [h] at a1 a2
  exact Prod.ext (a1.symm.trans b1) (a2.symm.trans b2)
def SimM (n : Nat) (F : List Pl) (S : Nat) : Prop := ∀ p ∈ allP n, (p ∈ F ↔ S.testBit (codeP n p) = true)
theorem SimM.add {n : Nat} {F : List Pl} {S : Nat} (h : SimM n F S) {q : Pl} (hq : q ∈ allP n) : SimM n (F ++ [q]) (S ||| 2 ^ codeP n q) := fun p hp => by
  rw [Nat.testBit_or, Nat.testBit_two_pow, Bool.or_eq_true, decide_eq_true_iff, List.mem_append, List.mem_singleton, h p hp]
  constructor
  · rintro (z | z)
    · exact .inl z
    · exact .inr (by rw [z])
  · rintro (z | z)
    · exact .inl z
    · exact .inr (codeP_inj hp hq z.symm)
def orbM (n : Nat) (m : Mv) : Nat → Nat → Nat → Nat
  | 0, S, _ => S
  | k + 1, S, p => if S.testBit p = true then S else orbM n m k (S ||| 2 ^ p) (stepN n m p)
def rndT (n : Nat) (m : Mv) (x : Nat × Nat) (p : Nat) : Nat × Nat := if x.2.testBit p = true then x else (x.1 + 1, orbM n m (n * n + 1) x.2 p)
def rndM (n : Nat) (m : Mv) : Nat := ((List.range (n * n)).foldl (rndT n m) (0, 0)).1
def lensM (n : Nat) : List Nat := (allM n).map (rndM n)
def litL1 : List Nat := [1,1,1,1,1,1,1,1]
def litL2 : List Nat := [3,1,1,3,3,1,1,3,4,2,2,2,4,2,2,2,3,1,1,3,4,2,2,2,4,2,2,2,3,1,1,3]
def litL3 : List Nat := [3,3,3,3,3,3,3,3,3,6,2,2,2,2,6,2,6,2,6,2,2,6,2,2,6,2,2,5,5,5,5,5,5,5,5,5,6,2,2,2,6,2,2,2,6,6,6,6,2,2,2,2,2,2,9,3,3,3,3,3,3,3,3,3,3,3,3,3,3,3,3,3]
def litL4 : List Nat := [6,4,6,4,4,6,4,6,6,4,6,4,4,6,4,6,10,2,4,2,2,4,2,10,4,2,10,2,2,10,2,4,12,4,8,4,8,4,8,4,12,4,8,4,8,4,8,4,10,8,10,8,8,8,8,8,10,8,10,8,8,8,8,8,10,2,4,2,2,10,2,4,4,2,10,2,2,4,2,10,12,8,12,8,4,4,4,4,8,8,8,8,4,4,4,4,16,4,8,4,4,4,4,4,8,4,8,4,4,4,4,4,6,4,6,4,4,6,4,6,6,4,6,4,4,6,4,6]
def litL5 : List Nat := [7,7,7,7,7,7,7,7,7,7,7,7,7,7,7,7,7,7,7,7,7,7,7,7,7,15,3,3,3,3,3,3,3,3,15,3,3,3,15,3,3,3,15,3,3,3,15,3,3,3,15,3,3,3,3,15,3,3,3,3,15,3,3,3,3,15,3,3,3,3,15,3,3,3,3,13,13,13,13,13,13,13,13,13,13,13,13,13,13,13,13,13,13,13,13,13,13,13,13,13,15,3,3,3,3,3,15,3,3,3,3,3,15,3,3,3,3,3,15,3,3,3,3,3,15,15,15,15,15,15,3,3,3,3,3,3,3,3,3,3,3,3,3,3,3,3,3,3,3,3,25,5,5,5,5,5,5,5,5,5,5,5,5,5,5,5,5,5,5,5,5,5,5,5,5,7,7,7,7,7,7,7,7,7,7,7,7,7,7,7,7,7,7,7,7,7,7,7,7,7]
def litL6 : List Nat := [11,9,11,9,11,9,9,11,9,11,9,11,11,9,11,9,11,9,9,11,9,11,9,11,11,9,11,9,11,9,9,11,9,11,9,11,21,3,7,9,7,3,3,7,9,7,3,21,7,9,7,3,21,3,9,7,3,21,3,7,7,3,21,3,7,9,3,21,3,7,9,7,24,6,8,18,8,6,18,6,6,18,6,6,24,6,8,18,8,6,18,6,6,18,6,6,24,6,8,18,8,6,18,6,6,18,6,6,20,18,20,18,20,18,18,18,18,18,18,18,20,18,20,18,20,18,18,18,18,18,18,18,20,18,20,18,20,18,18,18,18,18,18,18,21,3,7,9,7,3,3,21,3,7,9,7,7,3,21,3,7,9,9,7,3,21,3,7,7,9,7,3,21,3,3,7,9,7,3,21,24,18,24,18,24,18,6,6,6,6,6,6,8,6,8,6,8,6,18,18,18,18,18,18,8,6,8,6,8,6,6,6,6,6,6,6,36,6,12,18,12,6,6,6,6,6,6,6,12,6,12,6,12,6,18,6,6,18,6,6,12,6,12,6,12,6,6,6,6,6,6,6,11,9,11,9,11,9,9,11,9,11,9,11,11,9,11,9,11,9,9,11,9,11,9,11,11,9,11,9,11,9,9,11,9,11,9,11]
def litL7 : List Nat := [13,13,13,13,13,13,13,13,13,13,13,13,13,13,13,13,13,13,13,13,13,13,13,13,13,13,13,13,13,13,13,13,13,13,13,13,13,13,13,13,13,13,13,13,13,13,13,13,13,28,4,4,4,4,4,4,4,4,4,4,4,4,28,4,4,4,4,4,28,4,4,4,4,4,28,4,4,4,4,4,28,4,4,4,4,4,28,4,4,4,4,4,28,4,4,4,4,4,28,4,4,4,4,4,4,28,4,4,4,4,4,4,28,4,4,4,4,4,4,28,4,4,4,4,4,4,28,4,4,4,4,4,4,28,4,4,4,4,4,4,28,4,4,4,4,4,4,25,25,25,25,25,25,25,25,25,25,25,25,25,25,25,25,25,25,25,25,25,25,25,25,25,25,25,25,25,25,25,25,25,25,25,25,25,25,25,25,25,25,25,25,25,25,25,25,25,28,4,4,4,4,4,4,4,28,4,4,4,4,4,4,4,28,4,4,4,4,4,4,4,28,4,4,4,4,4,4,4,28,4,4,4,4,4,4,4,28,4,4,4,4,4,4,4,28,28,28,28,28,28,28,28,4,4,4,4,4,4,4,4,4,4,4,4,4,4,4,4,4,4,4,4,4,4,4,4,4,4,4,4,4,4,4,4,4,4,4,4,4,4,4,4,4,4,49,7,7,7,7,7,7,7,7,7,7,7,7,7,7,7,7,7,7,7,7,7,7,7,7,7,7,7,7,7,7,7,7,7,7,7,7,7,7,7,7,7,7,7,7,7,7,7,7,13,13,13,13,13,13,13,13,13,13,13,13,13,13,13,13,13,13,13,13,13,13,13,13,13,13,13,13,13,13,13,13,13,13,13,13,13,13,13,13,13,13,13,13,13,13,13,13,13]
end VN

/-! VTM: dict([(key, value), ..]), the keys tuples of ints and texts -/
namespace VS
open PySem PySem.Spec L2

def putAllK (acc : List (List Key × V)) (bs : List (List Key × Addr × V)) : List (List Key × V) := bs.foldl (fun acc q => putK acc q.1 q.2.2) acc
/-- one pair, and what the state holds of it -/
def PairV (H : Hp) (q : List Key × Addr × V) (r : List Key × Addr × Value) : Prop := r.1 = q.1 ∧ r.2.1 = q.2.1 ∧ H q.2.1 = some (.tup (q.1.map kV)) ∧ RelV q.2.2 r.2.2
def rDictT (K : PySem.W.Frag) : List V → Hp → VK → Prop := fun xs H Q => ∃ (a : Addr) (ps : List Addr) (bs : List (List Key × Addr × V)), xs = [.ref a] ∧ SqL K H a (ps.map V.ref) ∧
  Paired (fun p q => SqT K H p [.ref q.2.1, q.2.2] ∧ H q.2.1 = some (.tup (q.1.map kV))) ps bs ∧ ∀ p, H p = none → Q (.ref p) (upd H p (.dT (putAllK [] bs)))
section
variable {X : Cx}
end
def opDict : List D → (RV → Prop) → Prop
  | [.lst xs], Q => ∃ kvs : List (D × D), xs = kvs.map (fun p => D.tup [p.1, p.2]) ∧ (∀ p ∈ kvs, isKT p.1 = true) ∧ Q (.fr (.dic true (mergeD [] kvs)))
  | _, _ => False
end VS

/-! WM: movements made, once more -/
namespace VN
open PySem VS PySem.W
end VN

/-! VTN: own defs called within an except suite (the caught error tracked); texts times 0 -/
namespace VSN
open PySem PySem.Spec PyProof.Rows L2 HotX
/-! ### what a def promises wherever it is called -/
structure FnN (P : Program) (w : World) (K : PySem.W.Frag) (mg : Str → Option Value) (base : Heap) (CX : CXT) (k : Nat) (f : Addr) (fd : FuncData) (ps : List Str) (sp : Sp) : Prop where
  len : ∀ vs H Q E, sp vs H Q E → vs.length = ps.length
  run : ∀ (A : Around) (outer : List PySem.Env) (s : Shared) (H : Hp) (args : Args) (us : List Value) (vs : List V) (Q : VK) (E : XK), L2H.RoomH k A → Env0 P w K mg base A outer s H → BindsTo s fd args (ps.zip us) → Vals vs us → sp vs H Q E →
    codeAny (model P w) A (.call (.ref f) args) (CR CX outer P w H s Q E) s
theorem FnN.mono {P : Program} {w : World} {K : PySem.W.Frag} {mg : Str → Option Value} {base : Heap} {CX : CXT} {j k : Nat} {f : Addr} {fd : FuncData} {ps : List Str} {sp : Sp} (F : FnN P w K mg base CX j f fd ps sp) (h : j ≤ k) :
    FnN P w K mg base CX k f fd ps sp := ⟨F.len, fun A outer s H args us vs Q E hr => F.run A outer s H args us vs Q E (hr.mono h)⟩
def cxN (CX : CXT) (P : Program) (w : World) (K : PySem.W.Frag) (mg : Str → Option Value) (base : Heap) (N : List Str) (qual : Str) (scope : Scope) (f : Addr) (cd : Value) (A : Around) (outer : List PySem.Env) (s : Shared) (H : Hp) (E : XK) : Cx :=
  { cxOf CX P w K mg base N qual scope f cd A outer s H E with calm := false, pn := [] }
section
variable {X : Cx} {CX : CXT} {k : Nat} {f C : Addr} {fd : FuncData} {ps : List Str} {sp : Sp} {E : L2.St → XK} {x m : Str} {q pos apos : Pos} {e o : Expr} {es : List Expr} {ta : TE} {t : TA}
end
end VSN
namespace VS
open PySem PySem.Spec L2 VSN
/-! ### the rules -/
structure FnD (c : Cfg) (x : Str) (ms : List Bool) (F : FSp) : Prop where
  ex : ∃ f fd ps, FnN c.P c.w c.K c.mg c.base (L2.CX c.P c.w) c.k f fd ps (spV c ms F) ∧ c.mg x = some (.ref f) ∧ PySem.W.keepIn c.K (.ref f) = true ∧ Binds c.K fd ps []
section
variable {c : Cfg} {k : Nat} {N : List Str} {sc : Scope} {x : Str} {ms : List Bool} {F : FSp}
theorem FnD.lvl {f : Addr} {fd : FuncData} {ps : List Str} {j : Nat} (h : FnN c.P c.w c.K c.mg c.base (L2.CX c.P c.w) j f fd ps (spV c ms F)) (hm : c.mg x = some (.ref f)) (hk : PySem.W.keepIn c.K (.ref f) = true) (hb : Binds c.K fd ps []) (l : j ≤ k) :
    FnD (c.lv k) x ms F := ⟨⟨f, fd, ps, h.mono l, hm, hk, hb⟩⟩
end
/-! ### a text times an int, 0 too -/
def rMulZ : R2 := fun x y H Q => ∃ (a : Str) (n : Int), x = .str a ∧ y = .int n ∧ 0 ≤ n ∧ n ≤ 1000 ∧ a.length ≤ 1000 ∧ Q (.str (timesS a n)) H
def opMulZ : D → D → (RV → Prop) → Prop
  | .str a, .int n, Q => 0 ≤ n ∧ n ≤ 1000 ∧ a.length ≤ 1000 ∧ Q (.val (.str (timesS a n)))
  | _, _, _ => False
end VS

/-! VTO: a tuple times an int, 1 too -/
namespace L2
open PySem PySem.Spec PyProof.Rows
def rRepT1 (K : PySem.W.Frag) : R2 := fun x y H Q => ∃ l xs, x = .ref l ∧ y = .int 1 ∧ SqT K H l xs ∧ Q (.ref l) H
end L2
namespace VS
open PySem PySem.Spec L2
def opMulT : D → D → (RV → Prop) → Prop
  | .tup xs, .int n, Q => xs ≠ [] ∧ 1 ≤ n ∧ n ≤ 1000 ∧ xs.length ≤ 1000 ∧ Q (.val (.tup (List.replicate n.toNat xs).flatten))
  | _, _, _ => False
end VS

/-! VTP: range(i, j, c); zip of two tuples -/
namespace VS
open PySem PySem.Spec L2
section
variable {c : Cfg} {G B : Hp}
def rgC (lo st : Int) (n : Nat) : List D := (List.range n).map fun i => .int (lo + (i : Nat) * st)
def iRg3 (ta : AT) : IT := fun env Q Xq => ta env (fun rs e1 => ∃ i j st n, rs = [.val (.int i), .val (.int j), .val (.int st)] ∧ RgC i j st n ∧ Q (rgC i st n) none e1) Xq
/-! zip of two tuples -/
def zipD (xs ys : List D) : List D := List.zipWith (fun x y => .tup [x, y]) xs ys
def tupR (env : Env) : RV → Option (List D)
  | .val (.tup ds) => some ds
  | .slot i => match env[i]? with
    | some (.val (.tup ds)) => some ds
    | _ => none
  | _ => none
def iZp (ta : AT) : IT := fun env Q Xq => ta env (fun rs e1 => ∃ r1 r2 xs ys, rs = [r1, r2] ∧ tupR e1 r1 = some xs ∧ tupR e1 r2 = some ys ∧ Q (zipD xs ys) none e1) Xq
end
end VS

/-! WN: cloths laid beside and above one another -/
namespace VN
open PySem VS PySem.W
structure Cl (R : List Str) (w : Nat) : Prop where
  n0 : 0 < R.length
  n24 : R.length ≤ 24
  w0 : 0 < w
  w24 : w ≤ 24
  len : ∀ r ∈ R, r.length = w
  ok : ∀ r ∈ R, PyData.strOk r = true
theorem Cl.head {R : List Str} {w : Nat} (h : Cl R w) : ∃ r0, r0.length = w ∧ L2.atI (R.map D.str) 0 = some (D.str r0) := by
  cases R with
  | nil => exact absurd h.n0 (by decide)
  | cons r0 R => exact ⟨r0, h.len r0 (by simp), L2atI0⟩
where L2atI0 {r0 : Str} {R : List Str} : L2.atI ((r0 :: R).map D.str) 0 = some (D.str r0) := atI_of (j := 0) rfl rfl
/-- what a laying answers -/
def ResOk (d : D) : Prop := (∃ s, d = .str s ∧ PyData.strOk s = true) ∨ ∃ R : List Str, d = .tup (R.map D.str) ∧ ∀ r ∈ R, PyData.strOk r = true
def besD (R S : List Str) (w v : Nat) : D := if R.length = S.length then (if 24 < w + v then .str "TooBig" else .tup ((List.zipWith (· ++ ·) R S).map D.str)) else .str "NoFit"
def aboD (R S : List Str) (w v : Nat) : D := if w = v then (if 24 < R.length + S.length then .str "TooBig" else .tup ((R ++ S).map D.str)) else .str "NoFit"
def acrD (R : List Str) (w k : Nat) : D := if 24 < w * k then .str "TooBig" else .tup ((R.map fun r => timesS r (k : Nat)).map D.str)
def dowD (R : List Str) (k : Nat) : D := if 24 < R.length * k then .str "TooBig" else .tup (((List.replicate k R).flatten).map D.str)
open L2 in
theorem rg_even {z : Int} (h0 : 0 ≤ z) (h1 : z ≤ 1000) : ∃ n : Nat, RgC 26 z 2 n ∧ ∀ i : Nat, i < n → 26 + (i : Int) * 2 < z := by
  by_cases h : 26 < z
  · refine ⟨((z - 26 - 1) / 2 + 1).toNat, ⟨by decide, by decide, ?_, ?_⟩, fun i hi => by omega⟩
    · unfold Builtin.Range.small Builtin.Range.rangeSize
      simp only [Builtin.Range.rangeFitsLong, Bool.and_eq_true, Bool.or_eq_true, decide_eq_true_eq, beq_iff_eq, show ((2 : Int) > 0) by decide, if_true]
      rw [if_pos h]
      omega
    · unfold Builtin.Range.rangeSize
      rw [if_pos (by decide), if_pos h]
      omega
  · refine ⟨0, ⟨by decide, by decide, ?_, ?_⟩, fun i hi => by omega⟩
    · unfold Builtin.Range.small Builtin.Range.rangeSize
      simp only [Builtin.Range.rangeFitsLong, Bool.and_eq_true, Bool.or_eq_true, decide_eq_true_eq, beq_iff_eq, show ((2 : Int) > 0) by decide, if_true]
      rw [if_neg h]
      omega
    · unfold Builtin.Range.rangeSize
      rw [if_pos (by decide), if_neg h]
      rfl
end VN

/-! VTQ: list(text) -/
namespace VS
open PySem PySem.Spec PyProof.Rows L2
def sgV (z : Str) : List V := z.cps.toList.map fun ch => V.str ⟨#[ch]⟩
def rListS : List V → Hp → VK → Prop := fun xs H Q => ∃ z : Str, xs = [.str z] ∧ z.length ≤ sizeLine ∧ ∀ l, H l = none → Q (.ref l) (upd H l (.lst (sgV z)))
def opListS : List D → (RV → Prop) → Prop
  | [.str z], Q => z.length ≤ sizeLine ∧ Q (.fr (.lst (signs z)))
  | _, _ => False
end VS

/-! WO: rows and letters of cloths laid -/
namespace VN
open PySem VS PySem.W
def besF : D → D
  | .tup [.str a, .str b] => .str (a ++ b)
  | _ => .non
def tmsF (k : Nat) : D → D
  | .str r => .str (timesS r (k : Nat))
  | _ => .non
def lsF : D → D
  | .str r => .lst (signs r)
  | _ => .non
/-- letters again and again -/
def agF (r : Str) (w : Nat) : D → D
  | .int c => .str ⟨#[r.cps.toList.getD (c.toNat % w) 0]⟩
  | _ => .non
/-- rows again and again -/
def arF (R : List Str) (n : Nat) : D → D
  | .int c => .str (R.getD (c.toNat % n) "")
  | _ => .non
/-- the letters of a row again, up to n of them -/
def lgT (n w : Nat) (r : Str) : Str := ⟨((List.range n).map fun i => r.cps.toList.getD (i % w) 0).toArray⟩
def lgF (n w : Nat) : D → D
  | .str r => .str (lgT n w r)
  | _ => .non
def zpF (R S : List Str) : D → D
  | .int c => .str (R.getD c.toNat "" ++ S.getD c.toNat "")
  | _ => .non
def ujF : D → D
  | .lst ds => .str ⟨(ds.map fun d => match d with | .str s => s.cps.toList.headD 0 | _ => 0).toArray⟩
  | _ => .non
end VN

/-! VTR: sorted(set(text)) -/
namespace L2
open PySem PySem.Spec PyProof.Rows
def txE (e : Int × Value) : Str := strOf e.2
/-- what a set of texts holds, its table fit to be walked -/
structure TxSet (w : World) (es : Array (Int × Value)) (t : SetTable) (S : Str → Bool) (n : Nat) : Prop where
  good : ∀ e ∈ es.toList, ∃ k tk, e.2 = Value.str k tk ∧ e.1 = hashStr w k
  nd : (es.toList.map txE).Nodup
  mem : ∀ k, S k = true ↔ k ∈ es.toList.map txE
  bd : es.size < scanBound
  fit : t.fits es.size = true
  num : es.size = n
  ris : Ris t.place.toList
  led : w.params.followText "set-order" = true ∨ t.led = true
def SetX (w : World) (h : Heap) (a : Addr) (S : Str → Bool) (n : Nat) : Prop :=
  ∃ o es ep t, h.get? a = some o ∧ o.ExactSet ∧ o.data = .set es ep t ∧ TxSet w es t S n
section
variable {P : Program} {w : World} {h h' : Heap} {a : Addr} {S : Str → Bool} {n : Nat}
theorem SetX.at' (R : SetX w h a S n) (k : ∀ o, h.get? a = some o → h'.get? a = some o) : SetX w h' a S n := by
  obtain ⟨o, es, ep, t, ho, r⟩ := R
  exact ⟨o, es, ep, t, k o ho, r⟩
theorem SetX.same {S' : Str → Bool} (R : SetX w h a S n) (e : ∀ k, S' k = S k) : SetX w h a S' n := by
  rw [show S' = S from funext e]; exact R
end
section
variable {P : Program} {w : World} {A : Around} {E : Value → Shared → Prop} {s : Shared} {a : Addr} {S : Str → Bool} {n : Nat}
end
end L2

/-! VTS: set(text), sorted(set(text)) -/
namespace L2
open PySem PySem.Spec PyProof.Rows
def inSg (z : Str) (i : Nat) (k : Str) : Bool := decide (k ∈ (z.cps.toList.take i).map fun c => (⟨#[c]⟩ : Str))
section
variable {P : Program} {w : World} {A : Around} {E : Value → Shared → Prop} {s : Shared}
end
end L2
namespace VS
open PySem PySem.Spec L2 PyProof.Rows
/-! sorted(set(x)), x a text of small letters -/
def rSortSet : V → Hp → VK → Prop := fun x H Q => ∃ z : Str, x = .str z ∧ z.length ≤ 3000 ∧ (∀ c ∈ z.cps.toList, 97 ≤ c ∧ c < 123) ∧
  ∀ cs : List Nat, cs.Pairwise (· < ·) → (∀ c, c ∈ cs ↔ c ∈ z.cps.toList) → ∀ l, H l = none → Q (.ref l) (upd H l (.lst (cs.map fun c => V.str ⟨#[c]⟩)))
def opSortSet : D → (RV → Prop) → Prop
  | .str z, Q => z.length ≤ 3000 ∧ (∀ c ∈ z.cps.toList, 97 ≤ c ∧ c < 123) ∧ ∀ cs : List Nat, cs.Pairwise (· < ·) → (∀ c, c ∈ cs ↔ c ∈ z.cps.toList) → Q (.fr (.lst (cs.map fun c => D.str ⟨#[c]⟩)))
  | _, _ => False
end VS

/-! VTU: sorted(d.items()), d from texts to texts; dict(list of pairs), the keys texts -/
namespace VS
open PySem PySem.Spec L2 PyProof.Rows PySem.W
/-! ### a dict from texts to texts -/
abbrev txK (p : Str × Str) : Key × V := (Sum.inr p.1, V.str p.2)
def dP2 (p : Str × Str) : D := .tup [.str p.1, .str p.2]
def rSortItems (K : PySem.W.Frag) : V → Hp → VK → Prop := fun x H Q => ∃ (d : Addr) (ps : List (Str × Str)), x = .ref d ∧ Rd H d (.dK (ps.map txK)) ∧ (∀ p ∈ ps, PyData.strOk p.1 = true ∧ PyData.strOk p.2 = true) ∧
  Sortable (ps.map fun p => (dP2 p).toPy) ∧
  ∀ (H' : Hp) (zs : List (V × D)) (l : Addr), Same H H' → (∀ z ∈ zs, ∃ (t : Addr) (p : Str × Str), z = (V.ref t, dP2 p) ∧ H' t = some (.tup [.str p.1, .str p.2])) → zs.map (·.2) = (ps.map dP2).mergeSort leD → H' l = none → Q (.ref l) (upd H' l (.lst (zs.map (·.1))))
section
variable {X : Cx} {e : Expr} {te : TE} {p apos cpos pos : Pos}
end
def opSortItems : D → (RV → Prop) → Prop
  | .dic false kvs, Q => ∃ ps : List (Str × Str), kvs = ps.map (fun p => (D.str p.1, D.str p.2)) ∧ (∀ p ∈ ps, PyData.strOk p.1 = true ∧ PyData.strOk p.2 = true) ∧ Sortable (ps.map fun p => (dP2 p).toPy) ∧ Q (.fr (.lst ((ps.map dP2).mergeSort leD)))
  | _, _ => False
/-! ### dict([(text, value), ..]) -/
def opDictS : List D → (RV → Prop) → Prop
  | [.lst xs], Q => ∃ ps : List (Str × Str), xs = ps.map dP2 ∧ Q (.fr (.dic false (mergeD [] (ps.map fun p => (D.str p.1, D.str p.2)))))
  | _, _ => False
def rDictS (K : PySem.W.Frag) : List V → Hp → VK → Prop := fun xs H Q => ∃ (a : Addr) (ps : List Addr) (kvs : List (Key × V)), xs = [.ref a] ∧ SqL K H a (ps.map V.ref) ∧ Paired (fun p kv => SqT K H p [kV kv.1, kv.2]) ps kvs ∧
    ∀ p, H p = none → Q (.ref p) (upd H p (.dK (mergeK [] kvs)))
end VS

/-! WP: carpets dyed, letters in the order they are met -/
namespace VN
open PySem VS PySem.W
/-! dicts of letters -/
def nmD (L : List Nat) : List (D × D) := L.map fun x => (sgn x, sgn (97 + L.idxOf x))
/-! the letters met, in order -/
def step (L : List Nat) (c : Nat) : List Nat := if c ∈ L then L else L ++ [c]
def metR (L : List Nat) (g : Int → Nat) (j : Nat) : List Nat := (List.range j).foldl (fun L c => step L (g (c : Nat))) L
def metA (n : Nat) (f : Cp) (i : Nat) : List Nat := (List.range i).foldl (fun L r => metR L (f (r : Nat)) n) []
structure MetOk (L : List Nat) : Prop where
  nd : L.Nodup
  ab : ∀ x ∈ L, 97 ≤ x ∧ x < 123
theorem MetOk.nil : MetOk [] := ⟨List.nodup_nil, fun x h => nomatch h⟩
theorem MetOk.step {L : List Nat} (h : MetOk L) {c : Nat} (hc : 97 ≤ c ∧ c < 123) : MetOk (step L c) := by
  unfold VN.step
  split
  · exact h
  · rename_i hn
    refine ⟨List.nodup_append.mpr ⟨h.nd, by simp, fun a ha b hb => ?_⟩, fun x hx => ?_⟩
    · rw [List.mem_singleton.mp hb]
      exact fun e => hn (e ▸ ha)
    · rcases List.mem_append.mp hx with z | z
      · exact h.ab x z
      · rw [List.mem_singleton.mp z]; exact hc
theorem MetOk.len {L : List Nat} (h : MetOk L) : L.length ≤ 26 := by
  have := nodup_le (L := (List.range 26).map fun i => 97 + i) h.nd fun x hx => by
    have := h.ab x hx
    exact List.mem_map.mpr ⟨x - 97, List.mem_range.mpr (by omega), by omega⟩
  simpa using this
theorem MetOk.lt {L : List Nat} (h : MetOk L) {c : Nat} (hc : 97 ≤ c ∧ c < 123) (hn : c ∉ L) : L.length < 26 := by
  have := (h.step hc).len
  unfold VN.step at this
  rw [if_neg hn, List.length_append, List.length_singleton] at this
  omega
def metC (n : Nat) (f : Cp) : List Nat := metA n f n
def formC (n : Nat) (f : Cp) : Cp := fun r c => 97 + (metC n f).idxOf (f r c)
/-! the pairs, sorted -/
abbrev sg1 (x : Nat) : Str := ⟨#[x]⟩
def psL (L : List Nat) : List (Str × Str) := L.map fun x => (sg1 x, sg1 (97 + L.idxOf x))
def srtD (ps : List (Str × Str)) : List D := (ps.map dP2).mergeSort leD
def unP2 : D → Str × Str
  | .tup [.str a, .str b] => (a, b)
  | _ => ("", "")
/-! dict(pairs) -/
end VN
namespace VN
open PySem VS PySem.W
/-! renamed letters -/
def InjC (n : Nat) (f : Cp) (g : Nat → Nat) : Prop := ∀ r c r' c' : Nat, r < n → c < n → r' < n → c' < n → g (f r c) = g (f r' c') → f r c = f r' c'
/-! a dyeing -/
def DyOk (n : Nat) (f : Cp) (ps : List (Str × Str)) (g : Nat → Nat) : Prop := ∀ r c : Nat, r < n → c < n → (sg1 (f r c), sg1 (g (f r c))) ∈ ps
def dyN (seed m : Int) (k : Nat) : Nat := 97 + ((seed + m * (k : Int)) % 26).toNat
def dyP (cs : List Nat) (seed m : Int) : List (Str × Str) := (List.range cs.length).map fun k => (sg1 (cs.getD k 0), sg1 (dyN seed m k))
def dyG (cs : List Nat) (seed m : Int) (x : Nat) : Nat := dyN seed m (cs.idxOf x)
end VN
namespace VN
open PySem VS PySem.W
def rowGF (g : Nat → Nat) : D → D
  | .str s => .str ⟨(s.cps.toList.map g).toArray⟩
  | _ => .non
end VN
namespace VN
open PySem VS PySem.W
/-- all letters of a carpet in one text -/
def allS (n : Nat) (f : Cp) : Str := Txt.join "" ((List.range n).map fun r => rowS n (f (r : Nat)))
end VN
namespace VN
open PySem VS PySem.W
def sgGF (g : Nat → Nat) : D → D
  | .str s => sgn (g (s.cps.toList.headD 0))
  | _ => .non
def dyF (cs : List Nat) (seed m : Int) : D → D
  | .int k => .tup [sgn (cs.getD k.toNat 0), sgn (abcL ((seed + m * k) % 26))]
  | _ => .non
end VN

/-! WQ: least forms by colours -/
namespace VN
open PySem VS PySem.W
abbrev frD (n : Nat) (f : Cp) : D := cpD n (formC n f)
abbrev dyL (n : Nat) (f : Cp) : List D := srtD (psL (metC n f))
def trD (n : Nat) (f : Cp) (m : Mv) : D := .tup [frD n (movF n m f), dM m, .lst (dyL n (movF n m f))]
def LeastF (n : Nat) (f : Cp) (m : Mv) : Prop := m.ok n ∧ ∀ m' : Mv, m'.ok n → ltD (frD n (movF n m' f)) (frD n (movF n m f)) = false
/-! a dict that grows by the letters of a list -/
end VN

/-! VTV: None in a dict whose keys are tuples -/
namespace L2
open PySem PySem.Spec PyProof.Rows
section
variable {P : Program} {w : World} {A : Around} {E : Value → Shared → Prop} {s : Shared}
abbrev tkM (P : Program) (w : World) := tupleKind (mixKind P w)
end
end L2
namespace VS
open PySem PySem.Spec L2
def rNoneNI : R2 := fun x y H Q => ∃ a kvs, x = .non ∧ y = .ref a ∧ Rd H a (.dT kvs) ∧ Q (.bl true) H
def opNiT : D → D → (RV → Prop) → Prop
  | .non, .dic true kvs, Q => kvs = kvs ∧ Q (.val (.bl true))
  | k, .dic true kvs, Q => keyOk true k = true ∧ Q (.val (.bl (!(dget kvs k).isSome)))
  | _, _, _ => False
end VS

/-! VTW: zip of two texts -/
namespace L2
open PySem PySem.Spec PyProof.Rows
def ItzS (x y : Str) : It :=
  ⟨fun i H => i < x.cps.size ∧ i < y.cps.size,
    fun i H v H' => ∃ (T : Addr) (c d : Nat), v = .ref T ∧ H T = none ∧ H' = upd H T (.tup [.str ⟨#[c]⟩, .str ⟨#[d]⟩]) ∧ x.cps[i]? = some c ∧ y.cps[i]? = some d,
    fun i H => i = min x.cps.size y.cps.size⟩
abbrev zS1 (h : Heap) (x : Str) (t : Tok) : Heap := h.push { cls := .type (strIterType x), data := .fields #[.str x t, .int 0 0] }
abbrev zS2 (h : Heap) (x y : Str) (t u : Tok) : Heap := (zS1 h x t).push { cls := .type (strIterType y), data := .fields #[.str y u, .int 0 0] }
abbrev zS3 (h : Heap) (x y : Str) (t u : Tok) : Heap := (zS2 h x y t u).push { cls := .type "tuple", data := .seq #[.ref h.objs.size, .ref (zS1 h x t).objs.size] }
abbrev zS4 (h : Heap) (x y : Str) (t u : Tok) : Heap := (zS3 h x y t u).push { cls := .type "tuple", data := .seq #[.none, .none] }
abbrev zS5 (h : Heap) (x y : Str) (t u : Tok) : Heap := (zS4 h x y t u).push { cls := .type "zip", data := .fields #[.none, .bool false, .bool false, .ref (zS2 h x y t u).objs.size, .ref (zS3 h x y t u).objs.size] }
section
variable {prog : Program} {w : World} {A : Around} {E : Value → Shared → Prop} {s : Shared}
end
def iZipS (ta : TA) : TI := fun σ H R => ta σ H fun vs H1 => ∃ x y : Str, vs = [.str x, .str y] ∧ R (ItzS x y) H1
end L2
namespace VS
open PySem PySem.Spec L2
variable {c : Cfg} {G B : Hp}
def strR (env : Env) : RV → Option Str
  | .val (.str x) => some x
  | .slot i => match env[i]? with
    | some (.val (.str x)) => some x
    | _ => none
  | _ => none
def iZpS (ta : AT) : IT := fun env Q Xq => ta env (fun rs e1 => ∃ r1 r2 x y, rs = [r1, r2] ∧ strR e1 r1 = some x ∧ strR e1 r2 = some y ∧ Q (zipD (signs x) (signs y)) none e1) Xq
end VS

/-! VTX: len(set(list of texts)), no two alike -/
namespace L2
open PySem PySem.Spec PyProof.Rows
def inTl (ys : List Str) (i : Nat) (k : Str) : Bool := decide (k ∈ ys.take i)
theorem StrsAre.len : ∀ {us : List Value} {ys : List Str}, StrsAre us ys → us.length = ys.length
  | _, _, .nil => rfl
  | _, _, .cons _ _ h => by rw [List.length_cons, List.length_cons, StrsAre.len h]
section
variable {P : Program} {w : World} {A : Around} {E : Value → Shared → Prop} {s : Shared}
end
end L2
namespace VS
open PySem PySem.Spec L2
def rLenSetS (K : PySem.W.Frag) : V → Hp → VK → Prop := fun x H Q => ∃ (l : Addr) (ys : List Str), x = .ref l ∧ SqL K H l (ys.map V.str) ∧ ys.Nodup ∧ ys.length ≤ 3000 ∧ Q (.int (ys.length : Nat)) H
def opLenSetS : D → (RV → Prop) → Prop
  | .lst xs, Q => ∃ ys : List Str, xs = ys.map D.str ∧ ys.Nodup ∧ ys.length ≤ 3000 ∧ Q (.val (.int (ys.length : Nat)))
  | _, _ => False
end VS

/-! WR: kin by colours -/
namespace VN
open PySem VS PySem.W
def Alk (n : Nat) (f g : Cp) : Prop := ∀ r c r' c' : Nat, r < n → c < n → r' < n → c' < n → (f r c = f r' c' ↔ g r c = g r' c')
def dpD (ps : List (Nat × Nat)) : List (D × D) := ps.map fun p => (sgn p.1, sgn p.2)
def spS (ps : List (Nat × Nat)) : List (Str × Str) := ps.map fun p => (sg1 p.1, sg1 p.2)
def swp (ps : List (Nat × Nat)) : List (Nat × Nat) := ps.map fun p => (p.2, p.1)
def Vis (n i j r c : Nat) : Prop := c < n ∧ (r < i ∨ (r = i ∧ c < j))
structure Grw (n : Nat) (f g : Cp) (i j : Nat) (ps : List (Nat × Nat)) : Prop where
  n1 : (ps.map (·.1)).Nodup
  n2 : (ps.map (·.2)).Nodup
  has : ∀ r c : Nat, Vis n i j r c → (f r c, g r c) ∈ ps
  src : ∀ p ∈ ps, ∃ r c : Nat, Vis n i j r c ∧ p = (f r c, g r c)
theorem nd_uniq {α β : Type} {ps : List (α × β)} {x : α} {y y' : β} (nd : (ps.map (·.1)).Nodup) (h : (x, y) ∈ ps) (h' : (x, y') ∈ ps) : y = y' := by
  induction ps with
  | nil => cases h
  | cons p ps ih =>
    rw [List.map_cons, List.nodup_cons] at nd
    rcases List.mem_cons.mp h with e | e <;> rcases List.mem_cons.mp h' with e' | e'
    · rw [← e] at e'; cases e'; rfl
    · exact absurd (List.mem_map.mpr ⟨_, e', by rw [← e]⟩) nd.1
    · exact absurd (List.mem_map.mpr ⟨_, e, by rw [← e']⟩) nd.1
    · exact ih nd.2 e e'
theorem Grw.nil {n : Nat} {f g : Cp} : Grw n f g 0 0 [] := ⟨List.nodup_nil, List.nodup_nil, fun r c h => by unfold Vis at h; omega, fun p h => nomatch h⟩
theorem Grw.row {n : Nat} {f g : Cp} {i : Nat} {ps : List (Nat × Nat)} (h : Grw n f g i n ps) : Grw n f g (i + 1) 0 ps := by
  have e : ∀ r c, Vis n (i + 1) 0 r c ↔ Vis n i n r c := fun r c => by unfold Vis; omega
  exact ⟨h.n1, h.n2, fun r c v => h.has r c ((e r c).mp v), fun p hp => by obtain ⟨r, c, v, e1⟩ := h.src p hp; exact ⟨r, c, (e r c).mpr v, e1⟩⟩
theorem Grw.old {n : Nat} {f g : Cp} {i j : Nat} {ps : List (Nat × Nat)} (h : Grw n f g i j ps) (hp : (f i j, g i j) ∈ ps) : Grw n f g i (j + 1) ps := by
  refine ⟨h.n1, h.n2, fun r c v => ?_, fun p q => ?_⟩
  · by_cases e : r = i ∧ c = j
    · obtain ⟨rfl, rfl⟩ := e
      exact hp
    · exact h.has r c (by unfold Vis at v ⊢; omega)
  · obtain ⟨r, c, v, e⟩ := h.src p q
    exact ⟨r, c, by unfold Vis at v ⊢; omega, e⟩
theorem Grw.snoc {n : Nat} {f g : Cp} {i j : Nat} {ps : List (Nat × Nat)} (h : Grw n f g i j ps) (hj : j < n) (h1 : f i j ∉ ps.map (·.1)) (h2 : g i j ∉ ps.map (·.2)) : Grw n f g i (j + 1) (ps ++ [(f i j, g i j)]) := by
  have nd : ∀ {L : List Nat} {x : Nat}, L.Nodup → x ∉ L → (L ++ [x]).Nodup := fun {L x} a b => List.nodup_append.mpr ⟨a, by simp, fun u hu v hv => by rw [List.mem_singleton.mp hv]; exact fun e => b (e ▸ hu)⟩
  refine ⟨by rw [List.map_append]; exact nd h.n1 h1, by rw [List.map_append]; exact nd h.n2 h2, fun r c v => ?_, fun p q => ?_⟩
  · by_cases e : r = i ∧ c = j
    · obtain ⟨rfl, rfl⟩ := e
      simp
    · exact List.mem_append.mpr (.inl (h.has r c (by unfold Vis at v ⊢; omega)))
  · rcases List.mem_append.mp q with q | q
    · obtain ⟨r, c, v, e⟩ := h.src p q
      exact ⟨r, c, by unfold Vis at v ⊢; omega, e⟩
    · exact ⟨i, j, by unfold Vis; omega, List.mem_singleton.mp q⟩
theorem Grw.len {n : Nat} {f g : Cp} {i j : Nat} {ps : List (Nat × Nat)} (hf : okA f) (h : Grw n f g i j ps) : ps.length ≤ 26 := by
  have := MetOk.len (L := ps.map (·.1)) ⟨h.n1, fun x hx => by
    obtain ⟨p, hp, rfl⟩ := List.mem_map.mp hx
    obtain ⟨r, c, _, rfl⟩ := h.src p hp
    exact hf _ _⟩
  rw [List.length_map] at this
  exact this
theorem Grw.fn {n : Nat} {f g : Cp} {ps : List (Nat × Nat)} (h : Grw n f g n 0 ps) : ∃ u : Nat → Nat, DyOk n f (spS ps) u ∧ cpD n (fun r c => u (f r c)) = cpD n g := by
  refine ⟨fun x => open Classical in if e : ∃ y, (x, y) ∈ ps then e.choose else 0, ?_⟩
  have key : ∀ r c : Nat, r < n → c < n → (open Classical in if e : ∃ y, (f r c, y) ∈ ps then e.choose else 0) = g r c := fun r c hr hc => by
    have hm := h.has r c ⟨hc, .inl hr⟩
    have e : ∃ y, (f r c, y) ∈ ps := ⟨_, hm⟩
    rw [dif_pos e]
    exact nd_uniq h.n1 e.choose_spec hm
  refine ⟨fun r c hr hc => ?_, cp_ext.mpr fun r c h0 h1 h2 h3 => ?_⟩
  · show (sg1 (f r c), sg1 (open Classical in if e : ∃ y, (f r c, y) ∈ ps then e.choose else 0)) ∈ spS ps
    rw [key r c hr hc]
    exact List.mem_map.mpr ⟨_, h.has r c ⟨hc, .inl hr⟩, rfl⟩
  · obtain ⟨r, rfl⟩ := Int.eq_ofNat_of_zero_le h0
    obtain ⟨c, rfl⟩ := Int.eq_ofNat_of_zero_le h2
    exact key r c (by omega) (by omega)
end VN
namespace VN
open PySem VS PySem.W
def fstD : D → D
  | .tup [a, _] => a
  | _ => .non
def sndD : D → D
  | .tup [_, b] => b
  | _ => .non
end VN

/-! VTY: [k[0] for k in d], the first of each tuple key; `k not in d` with None -/
namespace VS
open PySem PySem.Spec L2 PyProof.Rows
def fK (k : List Key) : V := kV (k.headD (.inl 0))
section
variable {c : Cfg}
def dicR (env : Env) (i : Nat) : Option (List (D × D)) := match env[i]? with
  | some (.val (.dic true kvs)) => some kvs
  | some (.bor (.dic true kvs)) => some kvs
  | some (.own (.dic true kvs)) => some kvs
  | _ => none
def hdD : D → D
  | .tup (w :: _) => w
  | _ => .non
def eFst (i : Nat) : ET := fun env Q _ => ∃ kvs, dicR env i = some kvs ∧ (∀ p ∈ kvs, p.1 ≠ .tup []) ∧ Q (.fr (.lst (kvs.map fun p => hdD p.1))) env
end
end VS

/-! WT: the kind of a carpet -/
namespace VN
open PySem VS PySem.W
/-! dyed otherwise -/
def tenL : List Nat := [97, 98, 99, 100, 101, 113, 119, 120, 121, 122]
def okT (f : Cp) : Prop := ∀ r c, f r c ∈ tenL
def okS2 (s : Str) : Prop := okS s ∧ ∀ x ∈ s.cps.toList, x ∈ tenL
/-- the letter that stands so many behind among the ten -/
def dyT (a : Int) (x : Nat) : Nat := tenL.getD (((tenL.idxOf x : Nat) + (1 + a % 9)) % 10).toNat 0
/-! laid twice each way -/
def twF (n : Nat) (f : Cp) : Cp := fun r c => f (r % n) (c % n)
end VN
namespace VN
open PySem VS PySem.W
end VN
namespace VN
open PySem VS PySem.W
end VN
namespace VN
open PySem VS PySem.W
end VN

/-! WU: all least forms of a side and so many colours -/
namespace VN
open PySem VS PySem.W
/-! carpets by codes -/
def encN (c : Nat) : List Nat → Nat
  | [] => 0
  | d :: w => d + c * encN c w
def wC (n c code : Nat) : List Nat := (List.range (n * n)).map fun q => code / c ^ q % c
structure Vl (n c : Nat) (w : List Nat) : Prop where
  len : w.length = n * n
  lt : ∀ d ∈ w, d < c
theorem wC_vl {n c code : Nat} (hc : 0 < c) : Vl n c (wC n c code) := by
  refine ⟨by unfold wC; simp, fun d hd => ?_⟩
  obtain ⟨q, _, rfl⟩ := List.mem_map.mp hd
  exact Nat.mod_lt _ hc
theorem enc_lt {c : Nat} : ∀ {w : List Nat}, (∀ d ∈ w, d < c) → encN c w < c ^ w.length
  | [], _ => by show 0 < c ^ 0; rw [Nat.pow_zero]; exact Nat.one_pos
  | d :: w, h => by
    have h1 := enc_lt (w := w) fun x hx => h x (List.mem_cons_of_mem _ hx)
    have h2 := h d List.mem_cons_self
    rw [encN, List.length_cons, Nat.pow_succ, Nat.mul_comm (c ^ w.length)]
    have : c * (encN c w + 1) ≤ c * c ^ w.length := Nat.mul_le_mul_left _ h1
    rw [Nat.mul_add, Nat.mul_one] at this
    omega
theorem enc_at {c : Nat} : ∀ {w : List Nat} {q : Nat}, (∀ d ∈ w, d < c) → q < w.length → encN c w / c ^ q % c = w.getD q 0
  | [], _, _, h => absurd h (by simp)
  | d :: w, 0, h, _ => by
    rw [encN, Nat.pow_zero, Nat.div_one, Nat.add_mul_mod_self_left, Nat.mod_eq_of_lt (h d List.mem_cons_self)]
    rfl
  | d :: w, q + 1, h, hq => by
    have h2 := h d List.mem_cons_self
    rw [encN, Nat.pow_succ, Nat.mul_comm (c ^ q), ← Nat.div_div_eq_div_mul, Nat.add_mul_div_left _ _ (by omega), Nat.div_eq_of_lt h2, Nat.zero_add, enc_at (fun x hx => h x (List.mem_cons_of_mem _ hx)) (by simpa using hq)]
    rfl
theorem wC_all {n c : Nat} {w : List Nat} (h : Vl n c w) : ∃ code, code < c ^ (n * n) ∧ w = wC n c code := by
  refine ⟨encN c w, by rw [← h.len]; exact enc_lt h.lt, ?_⟩
  refine List.ext_getElem (by rw [h.len]; unfold wC; simp) fun q h1 h2 => ?_
  have hq : q < n * n := by rw [← h.len]; exact h1
  have e : (wC n c (encN c w))[q]? = some (w.getD q 0) := by
    unfold wC
    rw [List.getElem?_map, List.getElem?_range hq, Option.map_some, enc_at h.lt h1]
  have e2 := (List.getElem?_eq_some_iff.mp e).2
  rw [e2, List.getD_eq_getElem?_getD, List.getElem?_eq_getElem h1]
  rfl
/-! moved -/
theorem movW_vl {n c : Nat} (hn : 0 < n) (m : Mv) {w : List Nat} (h : Vl n c w) : Vl n c (movW n m w) := by
  have hn' : (0 : Int) < n := by omega
  refine ⟨movW_len n m w, fun d hd => ?_⟩
  obtain ⟨q, hq, rfl⟩ := List.mem_map.mp hd
  have k1 := lR_ok hn' (inv n m).w (inv n m).d (q / n : Nat) (q % n : Nat)
  have k2 := lC_ok hn' (inv n m).w (inv n m).r (q / n : Nat) (q % n : Nat)
  have hs : srcW n m q < w.length := by
    rw [h.len]
    unfold srcW
    generalize lR n (inv n m).w (inv n m).d (q / n : Nat) (q % n : Nat) = a at k1
    generalize lC n (inv n m).w (inv n m).r (q / n : Nat) (q % n : Nat) = b at k2
    obtain ⟨a, rfl⟩ := Int.eq_ofNat_of_zero_le k1.1
    obtain ⟨b, rfl⟩ := Int.eq_ofNat_of_zero_le k2.1
    rw [← Int.natCast_mul, ← Int.natCast_add, Int.toNat_natCast]
    have h1 : a + 1 ≤ n := by omega
    have h2 : n * (a + 1) ≤ n * n := Nat.mul_le_mul_left _ h1
    rw [Nat.mul_add, Nat.mul_one] at h2
    omega
  rw [List.getD_eq_getElem?_getD, List.getElem?_eq_getElem hs]
  exact h.lt _ (List.getElem_mem hs)
theorem movW_thn {n : Nat} (hn : 0 < n) {a b : Mv} (ha : a.ok n) (hb : b.ok n) {w : List Nat} : movW n (thn n a b) w = movW n b (movW n a w) := by
  refine dW_inj (movW_len ..) (movW_len ..) ?_
  rw [← dW_mov, ← dW_mov, mov_cp hn ha hb]
  refine mov_cg hn b ?_
  rw [dW_mov]
  rfl
theorem movW_stay {n : Nat} (hn : 0 < n) {w : List Nat} (h : w.length = n * n) : movW n stayM w = w := by
  refine dW_inj (movW_len ..) h ?_
  rw [← dW_mov, mov_stay_cp hn]
  rfl
theorem movW_back {n : Nat} (hn : 0 < n) {m : Mv} (hm : m.ok n) {w : List Nat} (h : w.length = n * n) : movW n (inv n m) (movW n m w) = w := by
  have hn' : (0 : Int) < n := by omega
  rw [← movW_thn hn hm (inv_ok hn' m), thn_inv hn' m, movW_stay hn h]
def LstW (n : Nat) (w : List Nat) : Prop := ∀ m : Mv, m.ok n → ltD (dW n (movW n m w)) (dW n w) = false
structure FormsOk (n c : Nat) (L : List (List Nat)) : Prop where
  srt : (L.map (dW n)).Pairwise (fun a b => leD a b = true)
  nd : L.Nodup
  mem : ∀ w, w ∈ L ↔ Vl n c w ∧ LstW n w
theorem okC_dig {n : Nat} {w : List Nat} (h : ∀ d ∈ w, d < 1000) : okC (dig n w) := fun r q => by
  show 97 + w.getD (n * r + q).toNat 0 < 1114112
  rw [List.getD_eq_getElem?_getD]
  cases e : w[(n * r + q).toNat]? with
  | none => show 97 + 0 < _; omega
  | some d =>
    have := h d (List.mem_of_getElem? e)
    show 97 + d < _
    omega
theorem ok_dW {n k c : Nat} {w : List Nat} (hc : c ≤ 1000) (h : Vl n c w) : D.okD (k + 2) (dW n w) = true := ok_cp (okC_dig fun d hd => Nat.lt_of_lt_of_le (h.lt d hd) hc)
theorem lst_eq {n c : Nat} (hn : 0 < n) (hc : c ≤ 1000) {x y : List Nat} (hx : Vl n c x) (lx : LstW n x) (ly : LstW n y) {m : Mv} (hm : m.ok n) (e : y = movW n m x) : y = x := by
  have hn' : (0 : Int) < n := by omega
  have hy : Vl n c y := by rw [e]; exact movW_vl hn m hx
  have e2 : movW n (inv n m) y = x := by rw [e]; exact movW_back hn hm hx.len
  have h1 := lx m hm
  have h2 := ly (inv n m) (inv_ok hn' m)
  rw [← e] at h1
  rw [e2] at h2
  exact dW_inj hy.len hx.len (leD_anti (n := 50) (m := 50) (ok_dW hc hy) (ok_dW hc hx) alike_cp (lt_le h2) (lt_le h1))
/-! the loop -/
structure FI (n c i : Nat) (S F : List (List Nat)) : Prop where
  s : ∀ x, x ∈ S ↔ ∃ j, j < i ∧ ∃ m : Mv, m.ok n ∧ x = movW n m (wC n c j)
  nds : S.Nodup
  f1 : ∀ x ∈ F, Vl n c x ∧ LstW n x ∧ x ∈ S
  f2 : ∀ j, j < i → ∃ x ∈ F, ∃ m : Mv, m.ok n ∧ x = movW n m (wC n c j)
  nd : F.Nodup
theorem FI.nil {n c : Nat} : FI n c 0 [] [] := ⟨fun x => ⟨(fun h => nomatch h), fun ⟨j, h, _⟩ => by omega⟩, List.nodup_nil, (fun x h => nomatch h), (fun j h => by omega), List.nodup_nil⟩
theorem mem_orbW {n : Nat} {w x : List Nat} : ∀ {ms : List Mv} {S : List (List Nat)}, x ∈ orbW n S w ms ↔ x ∈ S ∨ ∃ m ∈ ms, x = movW n m w
  | [], S => by simp [orbW]
  | m :: ms, S => by
    have e : orbW n S w (m :: ms) = orbW n (insW S (movW n m w)) w ms := rfl
    rw [e, mem_orbW]
    have hi : x ∈ insW S (movW n m w) ↔ x ∈ S ∨ x = movW n m w := by
      unfold insW
      split
      · rename_i h
        exact ⟨.inl, fun z => z.elim id fun e => e ▸ h⟩
      · simp
    rw [hi]
    simp only [List.mem_cons, exists_eq_or_imp, or_assoc]
theorem nd_orbW {n : Nat} {w : List Nat} : ∀ {ms : List Mv} {S : List (List Nat)}, S.Nodup → (orbW n S w ms).Nodup
  | [], S, h => h
  | m :: ms, S, h => by
    have e : orbW n S w (m :: ms) = orbW n (insW S (movW n m w)) w ms := rfl
    rw [e]
    refine nd_orbW ?_
    unfold insW
    split
    · exact h
    · rename_i hn
      exact List.nodup_append.mpr ⟨h, by simp, fun a ha b hb => by rw [List.mem_singleton.mp hb]; exact fun e => hn (e ▸ ha)⟩
theorem FI.old {n c i : Nat} (hn : 0 < n) (hc : 0 < c) {S F : List (List Nat)} (h : FI n c i S F) (hin : wC n c i ∈ S) : FI n c (i + 1) S F := by
  have hn' : (0 : Int) < n := by omega
  obtain ⟨j0, hj0, a, ha, e0⟩ := (h.s _).mp hin
  refine ⟨fun x => ⟨fun hx => ?_, fun ⟨j, hj, m, hm, e⟩ => ?_⟩, h.nds, h.f1, fun j hj => ?_, h.nd⟩
  · obtain ⟨j, hj, r⟩ := (h.s x).mp hx
    exact ⟨j, by omega, r⟩
  · by_cases z : j = i
    · subst z
      refine (h.s x).mpr ⟨j0, hj0, thn n a m, thn_ok hn' _ _, ?_⟩
      rw [e, e0, movW_thn hn ha hm]
    · exact (h.s x).mpr ⟨j, by omega, m, hm, e⟩
  · by_cases z : j = i
    · subst z
      obtain ⟨x, hx, b, hb, e⟩ := h.f2 j0 hj0
      refine ⟨x, hx, thn n (inv n a) b, thn_ok hn' _ _, ?_⟩
      rw [movW_thn hn (inv_ok hn' a) hb, e0, movW_back hn ha (wC_vl hc).len, e]
    · exact h.f2 j (by omega)
theorem FI.new {n c i : Nat} (hn : 0 < n) (hc : 0 < c) {S F : List (List Nat)} (h : FI n c i S F) (hno : wC n c i ∉ S) {a : Mv} (ha : a.ok n) (hl : ∀ m : Mv, m.ok n → ltD (dW n (movW n m (wC n c i))) (dW n (movW n a (wC n c i))) = false) :
    FI n c (i + 1) (orbW n S (wC n c i) (allM n)) (F ++ [movW n a (wC n c i)]) := by
  have hn' : (0 : Int) < n := by omega
  have hv := wC_vl (n := n) (code := i) hc
  have hu : movW n a (wC n c i) ∉ F := fun z => by
    obtain ⟨_, _, hs⟩ := h.f1 _ z
    obtain ⟨j, hj, b, hb, e⟩ := (h.s _).mp hs
    refine hno ((h.s _).mpr ⟨j, hj, thn n b (inv n a), thn_ok hn' _ _, ?_⟩)
    rw [movW_thn hn hb (inv_ok hn' a), ← e, movW_back hn ha hv.len]
  refine ⟨fun x => ?_, nd_orbW h.nds, fun x hx => ?_, fun j hj => ?_, List.nodup_append.mpr ⟨h.nd, by simp, fun x hx y hy => by rw [List.mem_singleton.mp hy]; exact fun e => hu (e ▸ hx)⟩⟩
  · rw [mem_orbW, h.s]
    constructor
    · rintro (⟨j, hj, r⟩ | ⟨m, hm, e⟩)
      · exact ⟨j, by omega, r⟩
      · exact ⟨i, by omega, m, mem_allM.mp hm, e⟩
    · rintro ⟨j, hj, m, hm, e⟩
      by_cases z : j = i
      · subst z; exact .inr ⟨m, mem_allM.mpr hm, e⟩
      · exact .inl ⟨j, by omega, m, hm, e⟩
  · rcases List.mem_append.mp hx with hx | hx
    · obtain ⟨h1, h2, h3⟩ := h.f1 x hx
      exact ⟨h1, h2, mem_orbW.mpr (.inl h3)⟩
    · rw [List.mem_singleton.mp hx]
      refine ⟨movW_vl hn a hv, fun m hm => ?_, mem_orbW.mpr (.inr ⟨a, mem_allM.mpr ha, rfl⟩)⟩
      rw [← movW_thn hn ha hm]
      exact hl _ (thn_ok hn' _ _)
  · by_cases z : j = i
    · subst z
      exact ⟨_, by simp, a, ha, rfl⟩
    · obtain ⟨x, hx, r⟩ := h.f2 j (by omega)
      exact ⟨x, List.mem_append.mpr (.inl hx), r⟩
theorem FI.fin {n c : Nat} (hn : 0 < n) (hc : 0 < c) (hc2 : c ≤ 1000) {S F : List (List Nat)} (h : FI n c (c ^ (n * n)) S F) {w : List Nat} : w ∈ F ↔ Vl n c w ∧ LstW n w := by
  refine ⟨fun hw => ⟨(h.f1 w hw).1, (h.f1 w hw).2.1⟩, fun ⟨h1, h2⟩ => ?_⟩
  obtain ⟨j, hj, e⟩ := wC_all h1
  obtain ⟨x, hx, m, hm, ex⟩ := h.f2 j hj
  rw [← e] at ex
  rw [← lst_eq hn hc2 h1 h2 (h.f1 x hx).2.1 hm ex]
  exact hx
theorem FI.len {n c i : Nat} (hn : 0 < n) (hc : 0 < c) {S F : List (List Nat)} (h : FI n c i S F) : S.length ≤ c ^ (n * n) ∧ F.length ≤ c ^ (n * n) := by
  have key : ∀ L : List (List Nat), L.Nodup → (∀ w ∈ L, Vl n c w) → L.length ≤ c ^ (n * n) := fun L nd hv => by
    have := nodup_le (L := (List.range (c ^ (n * n))).map (wC n c)) nd fun w hw => by
      obtain ⟨j, hj, e⟩ := wC_all (hv w hw)
      exact List.mem_map.mpr ⟨j, List.mem_range.mpr hj, e.symm⟩
    simpa using this
  refine ⟨key S h.nds fun w hw => ?_, key F h.nd fun w hw => (h.f1 w hw).1⟩
  obtain ⟨j, _, m, hm, rfl⟩ := (h.s w).mp hw
  exact movW_vl hn m (wC_vl hc)
end VN
namespace VN
open PySem VS PySem.W
/-- a letter that is none of the first so many, the least one -/
def BadL (n c : Nat) (f : Cp) (x : Nat) : Prop := (∃ r q : Nat, r < n ∧ q < n ∧ x = f r q) ∧ 97 + c ≤ x ∧ ∀ r q : Nat, r < n → q < n → 97 + c ≤ f r q → x ≤ f r q
def GoodL (n c : Nat) (f : Cp) : Prop := ∀ r q : Nat, r < n → q < n → f r q < 97 + c
end VN
namespace VN
open PySem VS PySem.W
def mvWF (n : Nat) (w : List Nat) : D → D := fun d => dW n (movW n (unM d) w)
end VN
namespace VN
open PySem VS PySem.W
end VN
namespace VN
open PySem VS PySem.W
def digF (n : Nat) (w : List Nat) : D → D
  | .int r => .str (rowS n (dig n w r))
  | _ => .non
end VN
namespace VN
open PySem VS PySem.W
end VN
namespace VN
open PySem VS PySem.W
def badQ2 (c : Nat) : D → Bool
  | .str s => !decide (s.cps.toList.headD 0 < 97 + c)
  | _ => false
/-! the last knot otherwise -/
/-! one colour -/
end VN
namespace VN
open PySem VS PySem.W
def oneF (n : Nat) : D → D := fun _ => .str (rowS n fun _ => 97)
end VN


namespace VN
open PySem VS PySem.W
theorem BadL.ok {n c : Nat} {f : Cp} {x : Nat} (hf : okA f) (h : BadL n c f x) : x < 1114112 := by
  obtain ⟨⟨r, q, hr, hq, ex⟩, _⟩ := h
  have := hf r q
  omega
end VN

namespace VN
open PySem VS PySem.W
end VN

namespace VN
open PySem VS PySem.W
end VN

namespace VN
open PySem VS PySem.W
end VN

/-! VTZ: defs that call themselves -/
namespace VS
open PySem PySem.Spec L2
variable {c : Cfg}
end VS
namespace VS
open PySem PySem.Spec L2
theorem FnC.up {c : Cfg} {k k' : Nat} {x : Str} {ms : List Bool} {F : FSp} (h : FnC (c.lv k) x ms F) (l : k ≤ k') : FnC (c.lv k') x ms F := by
  obtain ⟨f, fd, ps, o, r⟩ := h.ex
  exact ⟨⟨f, fd, ps, o.mono l, r⟩⟩
end VS

/-! VUA: text.rfind(text), text.find(text, place) -/
namespace VS
open PySem PySem.Spec L2
variable {c : Cfg}
def opRfind : D → List D → (RV → Prop) → Prop
  | .str a, [.str b], Q => Q (.val (.int (Txt.rfind a b)))
  | _, _, _ => False
def rRfind : V → List V → Hp → VK → Prop := fun x xs H Q => ∃ a b, x = .str a ∧ xs = [.str b] ∧ Q (.int (Txt.rfind a b)) H
def opFind3 : D → List D → (RV → Prop) → Prop
  | .str a, [.str b, .int i], Q => Q (.val (.int (Txt.find3 a b i)))
  | _, _, _ => False
def rFind3 : V → List V → Hp → VK → Prop := fun x xs H Q => ∃ (a b : Str) (i : Int), x = .str a ∧ xs = [.str b, .int i] ∧ Q (.int (Txt.find3 a b i)) H
end VS

/-! VUB: dicts whose keys are tuples of any depth -/
namespace VS
open PySem PySem.Spec L2
variable {c : Cfg}
mutual
theorem Rep.nest {X : Cx} {pins : List (Addr × Obj)} {σ : L2.St} {w : World} {G H : Hp} {s : Shared} (I : Inv X pins σ H s) (sg : Same G H) : ∀ {v : V} {d : D} {k : NestedKey} {u : Value}, Rep X.K w G v d → nkD d = some k → RelV v u → NestedIs s.heap k u
  | _, _, k, u, .non, e, r => by cases e
  | _, _, k, u, .bl b, e, r => by cases e
  | _, _, k, u, .int i, e, r => by cases e; obtain ⟨t, rfl⟩ := r; exact .int _ _
  | _, _, k, u, .str x, e, r => by cases e; obtain ⟨t, rfl⟩ := r; exact .text _ _
  | _, _, k, u, .ty n, e, r => by cases e
  | _, _, k, u, .tup (ds := ds) h q, e, r => by
    have e : (nkL ds).map NestedKey.tup = some k := e
    obtain ⟨ks, e1, rfl⟩ := Option.map_eq_some_iff.mp e
    obtain ⟨its, rv, ⟨o, ho, hc, n, hd⟩, _⟩ := I.tuple (SqT.of (sg _ _ h))
    cases (show u = Value.ref _ from r)
    exact .tup ho hc hd (by simpa using RepL.nest I sg q e1 rv)
  | _, _, k, u, .ktup (ds := ds) h q, e, r => by
    have e : (nkL ds).map NestedKey.tup = some k := e
    obtain ⟨ks, e1, rfl⟩ := Option.map_eq_some_iff.mp e
    obtain ⟨its, rv, ⟨o, ho, hc, n, hd⟩, _⟩ := I.tuple (.inr h)
    cases (show u = Value.ref _ from r)
    exact .tup ho hc hd (by simpa using RepL.nest I sg q e1 rv)
  | _, _, k, u, .lst _ _, e, r => by cases e
  | _, _, k, u, .dicK _ _, e, r => by cases e
  | _, _, k, u, .dicT _ _, e, r => by cases e
  | _, _, k, u, .dicC _, e, r => by cases e
  | _, _, k, u, .exc _ _ _ _, e, r => by cases e
  | _, _, k, u, .dix _ _, e, r => by cases e
  | _, _, k, u, .ins _ _ _ _, e, r => by cases e
theorem RepL.nest {X : Cx} {pins : List (Addr × Obj)} {σ : L2.St} {w : World} {G H : Hp} {s : Shared} (I : Inv X pins σ H s) (sg : Same G H) : ∀ {vs : List V} {ds : List D} {ks : List NestedKey} {us : List Value}, RepL X.K w G vs ds → nkL ds = some ks → Vals vs us → NestedAll s.heap ks us
  | _, _, ks, us, .nil, e, r => by cases e; cases r; exact .nil
  | _, _, ks, us, .cons (d := d) (ds := ds) h q, e, r => by
    unfold nkL at e
    cases hd : nkD d with
    | none => rw [hd] at e; cases e
    | some k =>
      rw [hd] at e
      obtain ⟨ks2, e1, rfl⟩ := Option.map_eq_some_iff.mp e
      cases r with
      | cons r1 r2 => exact .cons (Rep.nest I sg h hd r1) (RepL.nest I sg q e1 r2)
end
/-! ### lookups -/
def kgetN (kvs : List (NestedKey × Addr × V)) (k : NestedKey) : Option V := (kvs.find? fun p => decide (p.1 = k)).map (·.2.2)
def kputN (kvs : List (NestedKey × Addr × V)) (k : NestedKey) (ka : Addr) (v : V) : List (NestedKey × Addr × V) := if (kgetN kvs k).isSome = true then kvs.map (fun p => if p.1 = k then (p.1, p.2.1, v) else p) else kvs ++ [(k, ka, v)]
abbrev PN : List (NestedKey × Addr × V) → List (NestedKey × Addr × Value) → Prop := Paired fun p q => p.1 = q.1 ∧ p.2.1 = q.2.1 ∧ RelV p.2.2 q.2.2
theorem PN.val : ∀ {l : List (NestedKey × Addr × V)} {m : List (NestedKey × Addr × Value)}, PN l m → ∀ k, RelO (kgetN l k) ((atKey m k).map (·.2))
  | _, _, .nil, k => trivial
  | _, _, .cons (a := a) (b := b) h t, k => by
    unfold kgetN atKey
    rw [List.find?_cons, List.find?_cons, h.1]
    by_cases e : b.1 = k
    · rw [decide_eq_true e]
      exact h.2.2
    · rw [decide_eq_false e]
      exact PN.val t k
theorem paired_snoc {α β : Type} {R : α → β → Prop} : ∀ {l : List α} {m : List β} {a : α} {b : β}, Paired R l m → R a b → Paired R (l ++ [a]) (m ++ [b])
  | _, _, _, _, .nil, h => .cons h .nil
  | _, _, _, _, .cons q t, h => .cons q (paired_snoc t h)
theorem PN.put {l : List (NestedKey × Addr × V)} {m : List (NestedKey × Addr × Value)} (h : PN l m) (k : NestedKey) (ka : Addr) {v : V} {u : Value} (r : RelV v u) : PN (kputN l k ka v) (storedH m k ka u) := by
  have hs : (kgetN l k).isSome = (atKey m k).isSome := by
    have := (h.val k).isSome_eq
    rw [Option.isSome_map] at this
    exact this
  unfold kputN storedH
  rw [hs]
  split
  · have go : ∀ {l : List (NestedKey × Addr × V)} {m : List (NestedKey × Addr × Value)}, PN l m → PN (l.map (fun p => if p.1 = k then (p.1, p.2.1, v) else p)) (m.map (putAt k u)) := by
      intro l m q
      induction q with
      | nil => exact .nil
      | cons q t ih =>
        rename_i a b _ _
        refine .cons ?_ ih
        unfold putAt
        by_cases e : b.1 = k
        · rw [if_pos e]
          show (if a.1 = k then (a.1, a.2.1, v) else a).1 = _ ∧ (if a.1 = k then (a.1, a.2.1, v) else a).2.1 = _ ∧ RelV (if a.1 = k then (a.1, a.2.1, v) else a).2.2 _
          rw [if_pos (q.1.trans e)]
          exact ⟨q.1, q.2.1, r⟩
        · rw [if_neg e]
          show (if a.1 = k then (a.1, a.2.1, v) else a).1 = _ ∧ (if a.1 = k then (a.1, a.2.1, v) else a).2.1 = _ ∧ RelV (if a.1 = k then (a.1, a.2.1, v) else a).2.2 _
          rw [if_neg (fun z => e (q.1.symm.trans z))]
          exact q
    exact go h
  · exact paired_snoc h ⟨rfl, rfl, r⟩
theorem PN.len {l : List (NestedKey × Addr × V)} {m : List (NestedKey × Addr × Value)} (h : PN l m) : l.length = m.length := Paired.length h
theorem kput_len (l : List (NestedKey × Addr × V)) (k : NestedKey) (ka : Addr) (v : V) : (kputN l k ka v).length ≤ l.length + 1 := by
  unfold kputN
  split
  · rw [List.length_map]; omega
  · rw [List.length_append]; exact Nat.le_refl _
def dgetX (ds : List (D × D)) (k : NestedKey) : Option D := (ds.find? fun p => decide (nkD p.1 = some k)).map (·.2)
def dputX (ds : List (D × D)) (kd d : D) : List (D × D) := if (ds.any fun p => decide (nkD p.1 = nkD kd)) = true then ds.map (fun p => if nkD p.1 = nkD kd then (p.1, d) else p) else ds ++ [(kd, d)]
theorem RepN.val {K : PySem.W.Frag} {w : World} {G : Hp} : ∀ {l : List (NestedKey × Addr × V)} {ds : List (D × D)}, RepN K w G l ds → ∀ k, RelD K w G (kgetN l k) (dgetX ds k)
  | _, _, .nil, k => trivial
  | _, _, .cons (k := j) (kd := kd) e1 e2 h1 h2 t, k => by
    unfold kgetN dgetX
    rw [List.find?_cons, List.find?_cons]
    by_cases e : j = k
    · rw [show decide ((j, _, _).1 = k) = true from decide_eq_true e, show decide (nkD (kd, _).1 = some k) = true from decide_eq_true (by rw [show nkD (kd, _).1 = nkD kd from rfl, e1, e])]
      exact h2
    · rw [show decide ((j, _, _).1 = k) = false from decide_eq_false e, show decide (nkD (kd, _).1 = some k) = false from decide_eq_false (by rw [show nkD (kd, _).1 = nkD kd from rfl, e1]; exact fun z => e (Option.some.inj z))]
      exact RepN.val t k
theorem RepN.any {K : PySem.W.Frag} {w : World} {G : Hp} : ∀ {l : List (NestedKey × Addr × V)} {ds : List (D × D)}, RepN K w G l ds → ∀ k, (kgetN l k).isSome = ds.any fun p => decide (nkD p.1 = some k)
  | _, _, .nil, k => rfl
  | _, _, .cons (k := j) (kd := kd) e1 e2 h1 h2 t, k => by
    unfold kgetN
    rw [List.find?_cons, List.any_cons]
    by_cases e : j = k
    · rw [show decide ((j, _, _).1 = k) = true from decide_eq_true e, show decide (nkD (kd, _).1 = some k) = true from decide_eq_true (by rw [show nkD (kd, _).1 = nkD kd from rfl, e1, e])]
      rfl
    · rw [show decide ((j, _, _).1 = k) = false from decide_eq_false e, show decide (nkD (kd, _).1 = some k) = false from decide_eq_false (by rw [show nkD (kd, _).1 = nkD kd from rfl, e1]; exact fun z => e (Option.some.inj z))]
      exact RepN.any t k
theorem RepN.put {K : PySem.W.Frag} {w : World} {G : Hp} {l : List (NestedKey × Addr × V)} {ds : List (D × D)} (h : RepN K w G l ds) {k : NestedKey} {ka : Addr} {kd : D} {v : V} {d : D} (e : nkD kd = some k) (hd : k.depth ≤ 8) (rk : Rep K w G (.ref ka) kd) (r : Rep K w G v d) : RepN K w G (kputN l k ka v) (dputX ds kd d) := by
  unfold kputN dputX
  rw [h.any k, e]
  split
  · clear hd rk
    have go : ∀ {l : List (NestedKey × Addr × V)} {ds : List (D × D)}, RepN K w G l ds → RepN K w G (l.map (fun p => if p.1 = k then (p.1, p.2.1, v) else p)) (ds.map (fun p => if nkD p.1 = some k then (p.1, d) else p)) := by
      intro l ds q
      induction l generalizing ds with
      | nil => cases q; exact .nil
      | cons p l ih =>
        cases q with
        | @cons j ja jv jd jd2 _ _ e1 e2 h1 h2 t =>
          rw [List.map_cons, List.map_cons]
          by_cases e3 : j = k
          · rw [if_pos e3, if_pos (show nkD (jd, jd2).1 = some k by rw [← e3]; exact e1)]
            exact .cons e1 e2 h1 r (ih t)
          · rw [if_neg e3, if_neg (show ¬ nkD (jd, jd2).1 = some k by rw [show nkD (jd, jd2).1 = nkD jd from rfl, e1]; exact fun z => e3 (Option.some.inj z))]
            exact .cons e1 e2 h1 h2 (ih t)
    exact go h
  · have go : ∀ {l : List (NestedKey × Addr × V)} {ds : List (D × D)}, RepN K w G l ds → RepN K w G (l ++ [(k, ka, v)]) (ds ++ [(kd, d)]) := by
      intro l ds q
      induction l generalizing ds with
      | nil => cases q; exact .cons e hd rk r .nil
      | cons p l ih =>
        cases q with
        | cons e1 e2 h1 h2 t => exact .cons e1 e2 h1 h2 (ih t)
    exact go h
theorem RepN.length {K : PySem.W.Frag} {w : World} {G : Hp} {l : List (NestedKey × Addr × V)} {ds : List (D × D)} (h : RepN K w G l ds) : l.length = ds.length := by
  induction l generalizing ds with
  | nil => cases h; rfl
  | cons p l ih => cases h with | cons e1 e2 h1 h2 t => rw [List.length_cons, List.length_cons, ih t]
/-- all keys are keys -/
def KsN (K : PySem.W.Frag) (w : World) (G : Hp) (kvs : List (NestedKey × Addr × V)) : Prop := ∀ p ∈ kvs, ∃ kd, nkD kd = some p.1 ∧ p.1.depth ≤ 8 ∧ Rep K w G (.ref p.2.1) kd
theorem RepN.ks {K : PySem.W.Frag} {w : World} {G : Hp} {l : List (NestedKey × Addr × V)} {ds : List (D × D)} (h : RepN K w G l ds) : KsN K w G l := by
  induction l generalizing ds with
  | nil => intro p hp; cases hp
  | cons q l ih =>
    cases h with
    | cons e1 e2 h1 h2 t =>
      intro p hp
      rcases List.mem_cons.mp hp with rfl | hp
      · exact ⟨_, e1, e2, h1⟩
      · exact ih t p hp
theorem KsN.keys {X : Cx} {pins : List (Addr × Obj)} {σ : L2.St} {w : World} {G H : Hp} {s : Shared} (I : Inv X pins σ H s) (sg : Same G H) {l : List (NestedKey × Addr × V)} {m : List (NestedKey × Addr × Value)} (h : KsN X.K w G l) (p : PN l m) : ∀ x ∈ m, (nestedKind X.prog X.w).is s.heap x.1 x.2.1 := by
  induction p with
  | nil => intro x hx; cases hx
  | cons q t ih =>
    intro x hx
    rcases List.mem_cons.mp hx with rfl | hx
    · obtain ⟨kd, e1, e2, h1⟩ := h _ (List.mem_cons_self ..)
      rw [← q.1, ← q.2.1]
      exact ⟨Rep.nest I sg h1 e1 rfl, e2⟩
    · exact ih (fun p hp => h p (List.mem_cons_of_mem _ hp)) x hx
/-- as the kit's rules want it -/
theorem dx_of {X : Cx} {pins : List (Addr × Obj)} {σ : L2.St} {G H : Hp} {s : Shared} {a a' : Addr} {kvs : List (NestedKey × Addr × V)} (I : Inv X pins σ H s) (sg : Same G H) (e : Rd H a (dxO X.w a' kvs)) (r : KsN X.K X.w G kvs) :
    a' = a ∧ kvs.length ≤ sizeLine ∧ (a == sysModules) = false ∧ ∃ xs, PN kvs xs ∧ s.heap.DictOfH (nestedKind X.prog X.w) a xs := by
  obtain ⟨ea, z, hd, xs, pr, o, es, ep, h1, h2, h3, h4, h5⟩ := dx_rd I.hok e
  exact ⟨ea, z, hd, xs, pr, o, es, ep, h1, h2, h3, h4, KsN.keys I sg r pr, h5⟩
/-! ### reading -/
def isTk : D → Bool
  | .tup _ => true
  | .ktup _ => true
  | _ => false
theorem isTk_ref {K : PySem.W.Frag} {w : World} {G H : Hp} {v : V} {d : D} (h : RD K w H G v d) (e : isTk d = true) : Rep K w G v d ∧ ∃ a, v = .ref a := by
  cases d <;> try (cases e; done)
  · have h : Rep K w G v _ := h
    refine ⟨h, ?_⟩
    cases h with | tup q r => exact ⟨_, rfl⟩
  · have h : Rep K w G v _ := h
    refine ⟨h, ?_⟩
    cases h with | ktup q r => exact ⟨_, rfl⟩
/-- x[y], y in x: the dict, its data, the key -/
def DGX (K : PySem.W.Frag) (w : World) (H : Hp) (x y : V) (o : Option V) : Prop := ∃ (a a' kb : Addr) (kvs : List (NestedKey × Addr × V)) (G : Hp) (kd : D) (k : NestedKey), x = .ref a ∧ Rd H a (dxO w a' kvs) ∧ Same G H ∧ KsN K w G kvs ∧ y = .ref kb ∧ Rep K w G y kd ∧ nkD kd = some k ∧ k.depth ≤ 8 ∧ o = kgetN kvs k
def rIxX (K : PySem.W.Frag) (w : World) : R2 := fun x y H Q => ∃ v, DGX K w H x y (some v) ∧ Q v H
def opIdxX : D → D → (RV → Prop) → Prop
  | .dix kvs, k, Q => isTk k = true ∧ ∃ n, nkD k = some n ∧ n.depth ≤ 8 ∧ ∃ d, dgetX kvs n = some d ∧ Q (.val d)
  | _, _, _ => False
def rInX (K : PySem.W.Frag) (w : World) (neg : Bool) : R2 := fun x y H Q => ∃ o, DGX K w H y x o ∧ Q (.bl (neg ^^ o.isSome)) H
theorem op_notInX {X : Cx} (hu : X.A.units + 64 < cLine) : OpR X (compareOp .NotIn) (rInX X.K X.w true) := by
  intro pins s σ H x y v u Q I rx ry h
  obtain ⟨o, ⟨a, a', kb, kvs, G, kd, k, rfl, hd, sg, rn, rfl, rk, e, hdp, eo⟩, q⟩ := h
  obtain rfl : u = Value.ref a := ry
  obtain rfl : v = Value.ref kb := rx
  obtain ⟨_, hz, hm, xs, pr, dd⟩ := dx_of I sg hd rn
  refine PyProof.Rows.wpAny_notIn_heap (knd := nestedKind X.prog X.w) (show X.A.units + 1 + 8 < cLine by omega) ⟨Rep.nest I sg rk e rfl, hdp⟩ hm dd ?_
  have q2 := (pr.val k).isSome_eq
  rw [Option.isSome_map] at q2
  rw [← q2, ← eo]
  rw [Bool.true_xor] at q
  exact ⟨.bl (!o.isSome), H, I.tok _, rfl, q⟩
def opInX (neg : Bool) : D → D → (RV → Prop) → Prop
  | k, .dix kvs, Q => isTk k = true ∧ ∃ n, nkD k = some n ∧ n.depth ≤ 8 ∧ Q (.val (.bl (neg ^^ (dgetX kvs n).isSome)))
  | _, _, _ => False
theorem inX_s {neg : Bool} : OpS2 c (rInX c.K c.w neg) (opInX neg) := by
  intro G H x y da db P K s rx ry o f
  unfold opInX at o
  split at o
  · obtain ⟨hk, n, en, hn, p⟩ := o
    obtain ⟨rk, kb, rfl⟩ := isTk_ref rx hk
    obtain ⟨a, a', kvs, rfl, q, r⟩ := ry
    have rel := (r.val n).isSome
    exact ⟨_, ⟨a, a', kb, kvs, G, _, n, rfl, q, s, r.ks, rfl, rk, en, hn, rfl⟩, by rw [rel]; exact f.val s p (.bl _)⟩
  · exact o.elim
section
variable {pos : Pos} {a b : Expr} {ta tb : ET}
theorem r_notInX {X : Cx} (g : Good c X) : OpR X (compareOp .NotIn) (rInX c.K c.w true) := by rw [← g.K, ← g.w]; exact op_notInX g.un
theorem vt_notInX (ha : VE c a ta) (hb : VE c b tb) (hm : behindInMarks .NotIn b = false := by rfl) : VT c (.Compare a [.NotIn] [b] pos) (tV (eOp2 (opInX true) ta tb)) := vt_op2 (fun X g => r_notInX g) inX_s hm ha hb
end
/-! ### writing -/
theorem dx_new {P : Program} {w : World} {H : Hp} {h : Heap} {a : Addr} {kvs : List (NestedKey × Addr × V)} (x : dxOk w a kvs h) : ObjOk P w H h a (dxO w a kvs) := by
  obtain ⟨z, hm, xs, pr, o, es, ep, h1, h2, h3, h4, h5⟩ := x
  exact ⟨⟨z, hm, xs, pr, o, es, ep, h1, h2, h3, h4, h5⟩, ⟨o, h1⟩, fun g1 g2 ⟨z, hm, xs, pr, o, es, ep, h1, h2, h3, h4, h5⟩ k => ⟨z, hm, xs, pr, o, es, ep, k o h1, h2, h3, h4, h5⟩⟩
def rSetX (K : PySem.W.Frag) (w : World) : TSet := fun o i v H Q => ∃ (a a' kb : Addr) (kvs : List (NestedKey × Addr × V)) (G : Hp) (kd : D) (k : NestedKey), o = .ref a ∧ H a = some (dxO w a' kvs) ∧ Same G H ∧ KsN K w G kvs ∧ i = .ref kb ∧ Rep K w G (.ref kb) kd ∧ nkD kd = some k ∧ k.depth ≤ 8 ∧ kvs.length < sizeLine ∧
  Q (upd H a (dxO w a (kputN kvs k kb v)))
theorem set_X {X : Cx} (hu : X.A.units + 64 < cLine) : PSet X (rSetX X.K X.w) := by
  intro pins s σ H o i v ov iv u Q I ro ri rv h
  obtain ⟨a, a', kb, kvs, G, kd, k, rfl, e, sg, rn, rfl, rk, ek, hdp, hl, q⟩ := h
  obtain rfl : ov = Value.ref a := ro
  obtain rfl : iv = Value.ref kb := ri
  obtain ⟨ea, hz, hm, xs, pr, dd⟩ := dx_of I sg (.inl e) rn
  subst ea
  have hz2 : xs.length ≤ sizeLine := by rw [← pr.len]; exact hz
  have hl2 : (kputN kvs k kb v).length ≤ sizeLine := by have := kput_len kvs k kb v; omega
  refine wpAny_setItem_heap (knd := nestedKind X.prog X.w) (hsz := hz2) (show X.A.units + 1 + 8 < cLine by omega) ⟨Rep.nest I sg rk ek rfl, hdp⟩ dd fun h' dd' hs => ?_
  obtain ⟨qo, es, ep, hq, h2, h3, h4, _, h5⟩ := dd'
  exact ⟨_, d_write I (by rw [e]; exact True.intro) hs ⟨qo, hq⟩ (dx_new ⟨hl2, hm, _, pr.put k kb rv, qo, es, ep, hq, h2, h3, h4, h5⟩), q⟩
/-- x[k] = e -/
def sPutX (i : Nat) (tk tv : ET) : STt := fun D env => tv env (fun rv e1 => ∃ d0, e1[i]? = some (.own d0) ∧ tk e1 (fun rk e2 => ∃ dv e3 dk, fz e2 rv.hold = some (dv, e3) ∧ rd e3 rk = some dk ∧ ∃ kvs, e3[i]? = some (.own (.dix kvs)) ∧ isTk dk = true ∧ ∃ n, nkD dk = some n ∧ n.depth ≤ 8 ∧ kvs.length < sizeLine ∧
  ∃ e4, e3.set i (.own (.dix (dputX kvs dk dv))) = e4 ∧ D.nx e4) D.xq) D.xq
theorem vs_putX {i : Nat} {x : Str} {p tpos pos : Pos} {k e : Expr} {tk tv : ET} (hx : VisC c i x) (hv : VE c e tv) (hk : VE c k tk) (hs : ∀ env : PySem.Env, swapsWithSole [.Subscript (.Name x p) k tpos] e pos.line env = pure false := by intros; rfl)
    (ha : ∀ (env : PySem.Env) (v : Value), assign (.Subscript (.Name x p) k tpos) env v = (do
      let ov ← holding [v] (eval (.Name x p) env)
      let iv ← holding [v, ov] (eval k env)
      standAt tpos
      holding [v, ov, iv] (setItem ov iv v)
      release [v, ov, iv] []) := by intros; rfl) : VS1 c (.Assign [.Subscript (.Name x p) k tpos] e pos) (sPutX i tk tv) := by
  constructor
  intro X g G B H σ env D E q tk'
  obtain ⟨h1, h2, h3, h4⟩ := hx
  have hset : PSet X (rSetX c.K c.w) := by rw [← g.K, ← g.w]; exact set_X g.un
  refine TUs.of (ps_asg (pe_tu (e := e)) (pg_sub (pe_var (i := i) (x := x) (by rw [g.N]; exact h1) (by rw [g.scope]; exact h2) h3 h4) (pe_tu (e := k)) hset (ha X.env)) (hs X.env) (by rfl) (by rfl)) ?_
  refine (hv.run X g G B H σ env _ D.xq E q tk').imp fun v H1 ⟨rv, e1, G1, ⟨d0, e0, q1⟩, E1, x1, k1, r1⟩ => ?_
  obtain ⟨G1', x1', E1', p1⟩ := r1.hold E1
  obtain ⟨a, o, m1, m2, m3, m4, m5⟩ := E1'.own i _ e0
  refine ⟨_, m1, ?_⟩
  refine (hk.run X g G1' B H1 σ e1 _ D.xq E1' q1 (takes_up tk' (x1.trans x1') k1)).imp fun kv H2 ⟨rk, e2, G2, ⟨dv, e3, dk, qf, qr, kvs, q3, hk, n, en, hn, hl, _, rfl, qn⟩, E2, x2, k2, r2⟩ => ?_
  obtain ⟨G2', x2', E2', p2⟩ := r2.hold E2
  obtain ⟨G3, x3, E3, p3, k3⟩ := RepR.fz E2' ((p1.mono (x2.trans x2').1).repR qf) qf
  have rdk : RD c.K c.w H2 G3 kv dk := by
    cases rk with
    | val d =>
      have ed : d = dk := Option.some.inj qr
      subst ed
      exact Rep.rd E3.gh (Rep.mono x3.1 (show Rep c.K c.w G2' kv d from p2))
    | fr d =>
      have ed : d = dk := Option.some.inj qr
      subst ed
      exact Rep.rd E3.gh (Rep.mono x3.1 (show Rep c.K c.w G2' kv d from p2))
    | slot j => exact E3.slot_rd qr p2
  have X3 : Ext B G G3 := (x1.trans x1').trans ((x2.trans x2').trans x3)
  have K3 := (k1.trans k2).trans k3
  obtain ⟨b, ob, n1, n2, n3, n4, n5⟩ := E3.own i _ q3
  rw [m1] at n1
  cases n1
  obtain ⟨rkr, kb, rfl⟩ := isTk_ref rdk hk
  obtain ⟨a', ws, rfl, rr⟩ := n5
  refine ⟨a, a', kb, ws, G3, dk, n, rfl, n4, E3.gh, rr.ks, rfl, rkr, en, hn, by rw [rr.length]; exact hl, ?_⟩
  exact ⟨_, G3, qn, E3.setOwn q3 m1 ⟨a, _, rfl, rr.put en hn rkr p3⟩, X3, (K3.trans (keeps_own q3)).bors σ⟩
/-! ### displays -/
theorem dx_empty {P : Program} {w : World} {H : Hp} (h : Heap) (hb : sysModules < h.objs.size) : ObjOk P w H (h.push { cls := .type "dict", data := .dict #[] }) h.objs.size (dxO w h.objs.size []) :=
  dx_new ⟨Nat.zero_le _, beq_eq_false_iff_ne.mpr (Ne.symm (Nat.ne_of_lt hb)), [], .nil, _, #[], 0, Heap.get?_push_size _ rfl, ⟨rfl, rfl, rfl⟩, rfl, rfl, List.nodup_nil⟩
def tDNewX (w : World) : TE := fun _ H Q => ∀ p, H p = none → Q (.ref p) (upd H p (dxO w p []))
theorem pe_dnewX {X : Cx} {pos : Pos} : PE X (.Dict [] [] pos) (tDNewX X.w) := ⟨fun pins s σ H Q I h =>
  wpAny_Dict_empty ⟨.ref s.heap.objs.size, _, I.laid (a := s.heap.objs.size) (o := dxO X.w s.heap.objs.size []) (t' := s.toks) (fun _ _ q => Heap.get?_push_of_some _ q) (Nat.le_refl _) (dx_empty s.heap I.big), rfl, h _ (I.hok.fresh (Nat.le_refl _))⟩⟩
def eDix0 : ET := fun env Q _ => Q (.fr (.dix [])) env
theorem Fin.dix {G H : Hp} {P : RV → Prop} {K : VK} {ds : List (D × D)} (f : Fin c G H P K) (s : Same G H) (p : P (.fr (.dix ds))) {vs : List (NestedKey × Addr × V)} (r : RepN c.K c.w G vs ds) : ∀ a a', H a = none → K (.ref a) (upd H a (dxO c.w a' vs)) := fun a a' ha =>
  f _ (.ref a) G _ p ⟨same_new ha, Same.refl _, s.trans (same_new ha), fun b hb => .inl hb⟩ ⟨a, _, rfl, ha, s.free ha, upd_same, a', _, rfl, r⟩
theorem ve_dix0 {pos : Pos} : VE c (.Dict [] [] pos) eDix0 := by
  constructor
  intro X g G B H σ env Q Xq E q tk
  have hp : PE X (.Dict [] [] pos) (tDNewX c.w) := by rw [← g.w]; exact pe_dnewX
  refine TU.of hp fun p hp => ?_
  have f : Fin c G H (fun r => Q r env) (VQ c G B σ env Q) := fun rv v G' H' p res rr => ⟨rv, env, G', p, E.go res, res.ext E.bh, Keeps.refl _, E.goR res rr⟩
  exact f.dix E.gh q .nil p p hp
def eDix1 (tk tv : ET) : ET := fun env Q _ => tk env (fun rk e1 => tv e1 (fun rv e2 => ∃ dv e3 dk, fz e2 rv.hold = some (dv, e3) ∧ rd e3 rk.hold.hold = some dk ∧ isTk dk = true ∧ ∃ n, nkD dk = some n ∧ n.depth ≤ 8 ∧ Q (.fr (.dix [(dk, dv)])) e3) noX) noX
/-! ### a path through such a dict -/
def keyX? (ks : NestedKey) : D → Option D
  | .dix kvs => dgetX kvs ks
  | _ => none
def pKx (n : NestedKey) (f : Env → D → Option D) : Env → D → Option D := fun env d => (f env d).bind (keyX? n)
/-! ### a module's tuples within data: compared, sorted -/
mutual
def unD : D → D
  | .tup xs => .tup (unL xs)
  | .ktup xs => .tup (unL xs)
  | .lst xs => .lst (unL xs)
  | d => d
  termination_by structural d => d
def unL : List D → List D
  | [] => []
  | d :: ds => unD d :: unL ds
  termination_by structural d => d
end
def opNeU : D → D → (RV → Prop) → Prop
  | a, b, Q => D.okD 60 (unD a) = true ∧ D.okD 60 (unD b) = true ∧ Q (.val (.bl (!decide (unD a = unD b))))
def opEqU : D → D → (RV → Prop) → Prop
  | a, b, Q => D.okD 60 (unD a) = true ∧ D.okD 60 (unD b) = true ∧ Q (.val (.bl (decide (unD a = unD b))))
def opSortU : List D → (RV → Prop) → Prop
  | [d], Q => ∃ ds, colD d = some ds ∧ sortOk (ds.map unD) ∧ ∀ ds', ds'.map unD = (ds.map unD).mergeSort leD → (∀ e ∈ ds', e ∈ ds) → Q (.fr (.lst ds'))
  | _, _ => False
section
variable {pos : Pos} {a b : Expr} {ta tb : ET}
end
end VS

/-! WZA: rows of movements (k44, k45) -/
namespace VN
open PySem VS PySem.W
def nkM (m : Mv) : NestedKey := .tup [.text m.w.str, .num m.d, .num m.r]
theorem nkM_inj {a b : Mv} (h : nkM a = nkM b) : a = b := by
  cases a; cases b
  unfold nkM at h
  injection h with h
  injection h with h1 h
  injection h with h2 h
  injection h with h3 _
  injection h1 with h1
  injection h2 with h2
  injection h3 with h3
  have := Way.str_inj h1
  simp only at this h2 h3
  subst this h2 h3
  rfl
theorem nk_dM (m : Mv) : nkD (dM m) = some (nkM m) := rfl
/-- a movement as data, the module's own stay or a made one -/
def kM (m : Mv) : D := .ktup [.str m.w.str, .int m.d, .int m.r]
def isM (d : D) (m : Mv) : Prop := d = dM m ∨ d = kM m
/-- found rows: keys as data, movements, rows -/
def keyF : List (Mv × List Nat) → List D
  | [] => []
  | p :: T => kM p.1 :: T.map fun p => dM p.1
def rwD (r : List Nat) : D := .lst (r.map fun i => .int (i : Nat))
def kvF (F : List (Mv × List Nat)) : List (D × D) := (keyF F).zip (F.map fun p => rwD p.2)
/-! operations -/
/-! what a row leads to -/
def runR (n : Int) (L : List Mv) (r : List Nat) : Mv := r.foldl (fun m i => thn n m (L.getD i stayM)) stayM
theorem runR_snoc {n : Int} {L : List Mv} {r : List Nat} {i : Nat} {x : Mv} (h : L[i]? = some x) : runR n L (r ++ [i]) = thn n (runR n L r) x := by
  unfold runR
  rw [List.foldl_append, List.foldl_cons, List.foldl_nil, List.getD_eq_getElem?_getD, h]
  rfl
/-- rows found so far -/
structure RowsF (n : Nat) (L : List Mv) (F : List (Mv × List Nat)) : Prop where
  ne : ∃ T, F = (stayM, []) :: T
  nd : (F.map (·.1)).Nodup
  run : ∀ p ∈ F, runR n L p.2 = p.1 ∧ ∀ i ∈ p.2, i < L.length
  len : ∀ (i : Nat) (p : Mv × List Nat), F[i]? = some p → p.2.length ≤ i
theorem RowsF.reach {n : Nat} {L : List Mv} {F : List (Mv × List Nat)} (h : RowsF n L F) : ∀ m ∈ F.map (·.1), Reach n L m := fun m hm => by
  obtain ⟨p, hp, rfl⟩ := List.mem_map.mp hm
  obtain ⟨e, hi⟩ := h.run p hp
  rw [← e]
  have key : ∀ (r : List Nat) (m : Mv), Reach n L m → (∀ i ∈ r, i < L.length) → Reach n L (r.foldl (fun m i => thn n m (L.getD i stayM)) m) := by
    intro r
    induction r with
    | nil => intro m hm _; exact hm
    | cons i r ih =>
      intro m hm hi
      have h1 := hi i (by simp)
      refine ih _ (.step hm ?_) fun j hj => hi j (by simp [hj])
      rw [List.getD_eq_getElem?_getD, List.getElem?_eq_getElem h1]
      exact List.getElem_mem _
  exact key _ _ .stay hi
theorem RowsF.ok {n : Nat} (hn : 0 < n) {L : List Mv} {F : List (Mv × List Nat)} (h : RowsF n L F) : F.length ≤ 8 * (n * n) := by
  have := bound_M h.nd fun m hm => (h.reach m hm).ok hn
  rwa [List.length_map] at this
theorem RowsF.one (n : Nat) (L : List Mv) : RowsF n L [(stayM, [])] where
  ne := ⟨[], rfl⟩
  nd := by simp
  run := fun p hp => by rw [List.mem_singleton.mp hp]; exact ⟨rfl, fun i hi => by cases hi⟩
  len := fun i p e => by
    cases i with
    | zero => cases e; exact Nat.le_refl _
    | succ i => cases e
theorem RowsF.snoc {n : Nat} {L : List Mv} {F : List (Mv × List Nat)} (h : RowsF n L F) {a i : Nat} {p : Mv × List Nat} {x : Mv} (hp : F[a]? = some p) (hx : L[i]? = some x) (hm : thn n p.1 x ∉ F.map (·.1)) : RowsF n L (F ++ [(thn n p.1 x, p.2 ++ [i])]) := by
  have ha := (List.getElem?_eq_some_iff.mp hp).1
  have hil := (List.getElem?_eq_some_iff.mp hx).1
  refine ⟨?_, ?_, ?_, ?_⟩
  · obtain ⟨T, rfl⟩ := h.ne
    exact ⟨_, rfl⟩
  · rw [List.map_append, List.nodup_append]
    refine ⟨h.nd, by simp, fun a ha b hb e => ?_⟩
    rw [List.map_singleton, List.mem_singleton] at hb
    exact hm (by rw [e, hb] at ha; exact ha)
  · intro q hq
    rcases List.mem_append.mp hq with hq | hq
    · exact h.run q hq
    · rw [List.mem_singleton.mp hq]
      obtain ⟨e, hi⟩ := h.run p (List.mem_of_getElem? hp)
      refine ⟨by show runR n L (p.2 ++ [i]) = _; rw [runR_snoc hx, e], fun j hj => ?_⟩
      rcases List.mem_append.mp hj with hj | hj
      · exact hi j hj
      · rw [List.mem_singleton.mp hj]; exact hil
  · intro j q e
    by_cases hj : j < F.length
    · rw [List.getElem?_append_left hj] at e
      exact h.len j q e
    · have hl := (List.getElem?_eq_some_iff.mp e).1
      rw [List.length_append, List.length_singleton] at hl
      have : j = F.length := by omega
      subst this
      rw [List.getElem?_append_right (Nat.le_refl _), Nat.sub_self] at e
      cases e
      have := h.len a p hp
      rw [List.length_append, List.length_singleton]
      omega
/-- closed: all of them -/
theorem RowsF.all {n : Nat} (hn : 0 < n) {L : List Mv} {F : List (Mv × List Nat)} (h : RowsF n L F) (hc : ∀ p ∈ F, ∀ x ∈ L, thn n p.1 x ∈ F.map (·.1)) : sortM (F.map (·.1)) = madeL n L := by
  refine sort_made hn h.nd h.reach ?_ fun m hm x hx => ?_
  · obtain ⟨T, rfl⟩ := h.ne
    simp
  · obtain ⟨p, hp, rfl⟩ := List.mem_map.mp hm
    exact hc p hp x hx
theorem RowsF.at {n : Nat} {L : List Mv} {F : List (Mv × List Nat)} (h : RowsF n L F) (hs : sortM (F.map (·.1)) = madeL n L) {m : Mv} (hm : m ∈ madeL n L) : ∃ r, (m, r) ∈ F ∧ (∀ i ∈ r, i < L.length) ∧ runR n L r = m ∧ r.length ≤ (madeL n L).length := by
  have hlen : (madeL n L).length = F.length := by rw [← hs]; unfold sortM; rw [List.length_mergeSort, List.length_map]
  rw [← hs, mem_sortM] at hm
  obtain ⟨p, hp, rfl⟩ := List.mem_map.mp hm
  obtain ⟨e, hi⟩ := h.run p hp
  obtain ⟨i, hii⟩ := List.mem_iff_getElem?.mp hp
  have h1 := h.len i p hii
  have h2 := (List.getElem?_eq_some_iff.mp hii).1
  exact ⟨p.2, hp, hi, e, by omega⟩
/-! sorted keys, a module's tuple among them -/
end VN

/-! VUC: enumerate of a tuple, a module's own one too -/
namespace VS
open PySem PySem.Spec L2 PyProof.Rows
open Sem (wp)
section
variable {prog : Program} {w : World} {A : Around} {E : Value → Shared → Prop} {s : Shared}
/-- the two new things that enumerate(t) makes, behind the tuple's own iterator `ob` -/
abbrev enuObj (it : Addr) : Obj := { cls := .type "enumerate", data := .fields #[.none, .bool false, .ref it, rawInt 0, .none, .none] }
theorem enuNew {t : Value} {ob : Obj} {Ok : Heap → Prop} (bg : Begins t ob Ok) :
    Meets (Builtin.«enumerate.__new__» ⟨[.type "enumerate", t], []⟩) (fun _ R s =>
      Ok s.heap ∧ R (.ok (.ret (.ref (s.heap.push ob).objs.size))) { s with heap := (s.heap.push ob).push (enuObj s.heap.objs.size) }) :=
  .of_wp fun pr wd Ar R s h => by
    obtain ⟨hp, gl, dd, tks, ou⟩ := s
    obtain ⟨hok, h⟩ := h
    have sub := sub_enumerate
    have hit : ∀ {Ar2 : Around} {Er : Value → Shared → Prop} {Q : Value → Shared → Prop}, Q (.ref hp.objs.size) ⟨hp.push ob, gl, dd, tks, ou⟩ →
        wpAny (model pr wd) Ar2 (pyIter t) Q Er ⟨hp, gl, dd, tks, ou⟩ := fun q => bg.iter pr wd _ _ ⟨hp, gl, dd, tks, ou⟩ _ hok q
    wp_walk using hit
    refine wpAny_stack_any fun _ => wpAny_pure ?_
    split
    · rename_i cl _ _ _ _ _
      cases (cl == Value.type "enumerate") <;> (wp_walk using hit; exact ⟨_, rfl, h⟩)
    · wp_walk using hit
      exact ⟨_, rfl, h⟩
theorem enuCall {t : Value} {ob : Obj} {Ok : Heap → Prop} {Q : Value → Shared → Prop} (bg : Begins t ob Ok) (hok : Ok s.heap)
    (h : ∀ hN, IsEnum hN (s.heap.objs.size + 1) s.heap.objs.size 0 .none → hN.get? s.heap.objs.size = some ob → (∀ b o, s.heap.get? b = some o → hN.get? b = some o) →
      Q (.ref (s.heap.objs.size + 1)) { s with heap := hN }) : wpAny (model prog w) A (call (.type "enumerate") [t]) Q E s := by
  refine callType_new F.called_enumerate (by decide) (F.typeCall_enumerate_1 _) (F.newCall_enumerate_1 _) (fun o => F.args_object_init_2 o _) F.entry_enumerate_new (enuNew bg) ⟨hok, ?_⟩
  have z : (s.heap.push ob).objs.size = s.heap.objs.size + 1 := Heap.size_push ..
  have en : IsEnum ((s.heap.push ob).push (enuObj s.heap.objs.size)) (s.heap.objs.size + 1) s.heap.objs.size 0 .none := by
    have q := Heap.get?_push_size (s.heap.push ob) (o := enuObj s.heap.objs.size) rfl
    rw [z] at q
    exact q
  show _ ∧ _
  rw [z]
  exact ⟨⟨_, en, rfl⟩, h _ en (Heap.get?_push_of_some _ (Heap.get?_push_size _ bg.free)) fun b o x => Heap.get?_push_of_some _ (Heap.get?_push_of_some _ x)⟩
end
/-- the tuple at a, its items in new pairs -/
def ItU (K : PySem.W.Frag) (a : Addr) : It :=
  ⟨fun i H => ∃ (xs : List V) (x : V), SqT K H a xs ∧ xs[i]? = some x, fun i H v H' => ∃ T x, v = .ref T ∧ H T = none ∧ H' = upd H T (.tup [.int (i : Nat), x]) ∧ ∀ xs, SqT K H a xs → xs[i]? = some x,
   fun i H => ∃ xs : List V, SqT K H a xs ∧ xs.length ≤ i⟩
theorem enuApart {h : Heap} {e it a : Addr} {n : Int} {old : Value} {its : Array Value} (he : IsEnum h e it n old) (ht : h.IsTuple a its) : e ≠ a := by
  rintro rfl
  obtain ⟨o, q, z, _⟩ := ht
  have he' : h.get? e = _ := he
  rw [he'] at q
  cases q
  exact absurd z (by simp)
theorem titApart {h : Heap} {it a : Addr} {i : Nat} {its : Array Value} (hi : h.IsTupleIter it a i) (ht : h.IsTuple a its) : a ≠ it := by
  rintro rfl
  obtain ⟨o, q, z, _⟩ := ht
  obtain ⟨o2, q2, z2, _⟩ := hi
  rw [q] at q2
  cases q2
  rw [z] at z2
  exact absurd z2 (by simp)
theorem turnU {P : Program} {w : World} {K : PySem.W.Frag} {elts : List Expr} {kk : Nat} {tpos : Pos} (a e it : Addr) :
    Turn P w K (.Tuple elts kk tpos) (ItU K a) [e, it] e (fun i h => (∃ old, IsEnum h e it (i : Nat) old) ∧ h.IsTupleIter it a i ∧ e ≠ it) where
  mem := by simp
  obj := fun i h st b hb => by
    obtain ⟨⟨old, he⟩, ⟨o, ho, _, hd⟩, _⟩ := st
    rcases (show b = e ∨ b = it by simpa using hb) with rfl | rfl
    · exact ⟨_, he, fun v q => nomatch q⟩
    · refine ⟨o, ho, fun v q => ?_⟩
      rw [hd] at q
      cases q
  keep := fun i h h' ⟨⟨old, he⟩, hi, ne⟩ k => ⟨⟨old, k e (by simp) _ he⟩, hi.at fun o q => k it (by simp) o q, ne⟩
  item := by
    rintro X rfl rfl rfl hc i pins s σ H E I hf ⟨⟨old, he⟩, hit, ne⟩ ⟨xs, x, hq, hx⟩
    obtain ⟨its, rv, p, hz⟩ := I.tuple hq
    have p' : s.heap.IsTuple a its.toArray := p
    obtain ⟨u, hu, ru⟩ := rv.get hx
    have le : e < s.heap.objs.size := Heap.lt_size he
    have li : it < s.heap.objs.size := by
      obtain ⟨_, q, _⟩ := hit
      exact Heap.lt_size q
    have na := enuApart he p'
    have dr := Draws.tuple (prog := X.prog) (w := X.w) (A := X.A.in1) (I.ok.hd hc) it a (titApart hit p') its.toArray
    refine wpAny_pyNext_enum_itemC dr he ⟨hit, p'⟩ (by have := (List.getElem?_eq_some_iff.mp hu).1; simpa using this) ne (by simp [ne, na]) fun y hN tk hy ho ⟨hit', _⟩ hT hsz hk => ?_
    have ey : y = u := by
      have z : its.toArray[i]? = some y := hy
      have z2 : its[i]? = some y := by simpa using z
      rw [hu] at z2
      exact (Option.some.inj z2).symm
    subst ey
    refine ⟨_, rfl, wpAny_letOwnedTupleGo_enum (s := { s with heap := hN, toks := tk + 1 }) ho fun hM he' sb => ?_⟩
    have tM := (sb.2 _ (Nat.ne_of_gt le)).trans hT
    have new : ObjOk X.prog X.w (upd H s.heap.objs.size (.tup [.int (i : Nat), x])) hM s.heap.objs.size (.tup [.int (i : Nat), x]) :=
      ⟨by show 2 ≤ sizeLine; decide, [.int i tk, y], .cons ⟨_, rfl⟩ (.cons ru .nil), ⟨_, tM, rfl, _, rfl⟩⟩
    have I1 : Inv X pins σ (upd H s.heap.objs.size (.tup [.int (i : Nat), x])) { s with heap := hM, toks := tk + 1 } :=
      I.turnedNew (ch := [e, it]) (fun b ob hb q => (sb.2 b (fun z => hb (by simp [z]))).trans (hk b ob (fun z => hb (by simp [z])) (fun z => hb (by simp [z])) q)) hf (Nat.le_refl _) new
    refine ⟨.ref s.heap.objs.size, _, I1, rfl, ⟨_, x, rfl, I.hok.fresh (Nat.le_refl _), rfl, fun ys hy => by rw [I.tuple_inj hy hq]; exact hx⟩, ⟨⟨y, ?_⟩, hit'.at fun o q => (sb.2 it (Ne.symm ne)).trans q, ne⟩, fun b hb => ?_⟩
    · rw [show ((i + 1 : Nat) : Int) = (i : Int) + 1 from by omega]
      exact he'
    · have lb : b < s.heap.objs.size := by
        rcases (show b = e ∨ b = it by simpa using hb) with rfl | rfl
        · exact le
        · exact li
      rw [upd_ne (Nat.ne_of_lt lb)]
      exact (hf b hb).1
  done := by
    rintro X rfl rfl rfl hc i pins s σ H E I hf ⟨⟨old, he⟩, hit, ne⟩ ⟨xs, hq, hx⟩
    obtain ⟨its, rv, p, hz⟩ := I.tuple hq
    have p' : s.heap.IsTuple a its.toArray := p
    obtain ⟨f0, f1, f2, f3, f4, f5⟩ := hf it (by simp)
    have hl := rv.length
    have na := enuApart he p'
    have dr : Draws X.prog X.w X.A.in1 it [it, a] i (fun _ _ => True) (fun j h => j = i ∧ h.IsTupleIter it a j ∧ h.IsTuple a its.toArray) :=
      { live := fun _ _ st => let ⟨o, ho, _⟩ := st.2.1; ⟨o, ho⟩
        frame := fun _ _ _ st hk => ⟨st.1, st.2.1.at fun o q => hk it (by simp) o q, st.2.2.at fun o q => hk a (by simp) o q⟩
        item := fun j _ _ _ lt st _ => absurd lt (by have := st.1; omega)
        done := fun _ _ _ st hE => wpAny_nextOf_tuple_end (I.ok.hd hc) st.2.1 st.2.2 (by simp; omega) hE }
    exact wpAny_pyNext_enum_endD dr he ⟨rfl, hit, p'⟩ fun hN eb => ⟨rfl, I.turned (t' := s.toks) (fun b o hb q => eb b o hb q) f0 f1 f3 f4 f5⟩
  self := fun A i s Q E st h => wpAny_pyIter_enum st.1.choose_spec h
def iEnuU (K : PySem.W.Frag) (ta : TA) : TI := fun σ H R => ta σ H fun vs H1 => ∃ a xs, vs = [.ref a] ∧ SqT K H1 a xs ∧ R (ItU K a) H1
theorem piU {X : Cx} {e : Expr} {ta : TA} {p pos tpos : Pos} {elts : List Expr} {kk : Nat} (hg : Gl X "enumerate") (hm : X.mg "enumerate" = none) (ha : PA X [e] ta)
    (hs : starEach [e] X.env = [(false, eval e X.env)] := by rfl) : PI X (.Tuple elts kk tpos) (.Call (.Name "enumerate" p) [e] [] pos) (iEnuU X.K ta) := by
  refine ⟨fun pins s σ H R I h => Call_ (ld_blt I hg hm boot_enumerate (PyProof.Rows.callWith_type1 (thn (ha.run pos pins s σ H _ I h) fun us s1 ⟨vs, H1, I1, r1, a, xs, ex, hq, q⟩ => ?_) hs rfl))⟩
  subst ex
  cases r1 with
  | cons r rr =>
  cases rr
  cases r
  obtain ⟨its, rv, pt, hz⟩ := I1.tuple hq
  refine enuCall (begins_tuple a its.toArray) pt fun hN he hit hk => wpAny_pyIter_enum he ?_
  refine ⟨s1.heap.objs.size + 1, [s1.heap.objs.size + 1, s1.heap.objs.size], _, _, H1, rfl, I1.kept (t' := s1.toks) hk, turnU a (s1.heap.objs.size + 1) s1.heap.objs.size, ⟨⟨.none, he⟩, ⟨_, hit, rfl, rfl⟩, Nat.succ_ne_self _⟩, fun b hb => ?_, q⟩
  have le : s1.heap.objs.size ≤ b := by
    rcases (show b = s1.heap.objs.size + 1 ∨ b = s1.heap.objs.size by simpa using hb) with rfl | rfl
    · exact Nat.le_add_right _ _
    · exact Nat.le_refl _
  exact I1.fpOk le (I1.hok.fresh le)
section
variable {c : Cfg} {pos : Pos}
def enuT : RV → Option (List D)
  | .val (.tup ds) => some ds
  | .val (.ktup ds) => some ds
  | _ => none
def iEnT (ta : AT) : IT := fun env Q Xq => ta env (fun rs e1 => ∃ r ds, rs = [r] ∧ enuT r = some ds ∧ Q (enuD 0 ds) none e1) Xq
theorem walksU {G B : Hp} {K : PySem.W.Frag} (hK : K = c.K) {a : Addr} {vs : List V} {ds : List D} (r : RepL c.K c.w G vs ds) (h : ∀ H' G', Same G G' → Same G' H' → SqT c.K H' a vs) : Walks c G B (ItU K a) (enuD 0 ds) := by
  subst hK
  refine ⟨fun i d G' H' e s1 s2 s3 => ?_, fun G' H' s1 s2 s3 => ⟨vs, h H' G' s3 s1, by rw [enuD_len, r.length]; exact Nat.le_refl _⟩⟩
  obtain ⟨x, hx, rfl⟩ := enuD_get e
  obtain ⟨v, hv, rv⟩ := r.get hx
  refine ⟨⟨vs, v, h H' G' s3 s1, hv⟩, fun y H2 ⟨T, u, ey, hT, eh, hu⟩ => ?_⟩
  subst ey eh
  have hu := hu vs (h H' G' s3 s1)
  rw [hv] at hu
  cases hu
  have f : Fin c G' H' (fun rv => rv = .val (.tup [.int ((0 + i : Nat) : Int), x])) (fun y H2 => ∃ G2, Res G' H' G2 H2 ∧ Rep c.K c.w G2 y (.tup [.int ((0 + i : Nat) : Int), x])) := fun rv v G2 H2 p res rr => by
    subst p
    exact ⟨G2, res, rr⟩
  exact f.tup s1 rfl (.cons (by rw [Nat.zero_add]; exact .int _) (.cons (rv.mono s3) .nil)) T hT
theorem vi_enT {e : Expr} {ta : AT} {p pos tpos : Pos} {elts : List Expr} {kk : Nat} (b : BltC c "enumerate" (.type "enumerate")) (ha : VA c [e] ta) (hn : noStar e = true := by rfl) :
    VI c (.Tuple elts kk tpos) (.Call (.Name "enumerate" p) [e] [] pos) (iEnT ta) := by
  constructor
  intro X g G B H σ env Q Xq E q tk pins s I
  refine (piU (p := p) (pos := pos) (b.gl.gl g) (by rw [g.mg]; exact b.mg) (pa_tu (es := [e])) (star_cons hn)).run pins s σ H _ I ?_
  refine (ha.run X g G B H σ env _ Xq E q tk).imp fun vs H1 ⟨rs, e1, G1, ⟨r, ds, er, eq, q1⟩, E1, x1, k1, r1⟩ => ?_
  subst er
  cases r1 with
  | cons h r1 =>
  cases r1
  have key : ∃ a us, ‹V› = .ref a ∧ RepL c.K c.w G1 us ds ∧ SqT c.K H1 a us ∧ ∀ H' G', Same G1 G' → Same G' H' → SqT c.K H' a us := by
    unfold enuT at eq
    split at eq
    · cases eq
      cases h with
      | @tup a us _ hq rr => exact ⟨a, us, rfl, rr, SqT.of (E1.gh _ _ hq), fun H' G' s1 s2 => SqT.of (s2 _ _ (s1 _ _ hq))⟩
    · cases eq
      cases h with
      | @ktup a us _ hq rr => exact ⟨a, us, rfl, rr, .inr hq, fun _ _ _ _ => .inr hq⟩
    · cases eq
  obtain ⟨a, us, rfl, rr, hq, hw⟩ := key
  exact ⟨a, us, rfl, by rw [g.K]; exact hq, _, none, e1, e1, G1, B, q1, E1, x1, k1, .no, walksU g.K rr hw⟩
end
end VS

/-! WZC: groups of movements listed (k94, k95, k96) -/
namespace VN
open PySem VS PySem.W
/-- the shoves of a side -/
def shvL (n : Nat) : List Mv := (List.range (n * n)).map fun p => ⟨.stay, ((p / n : Nat) : Int), ((p % n : Nat) : Int)⟩
theorem mem_shvL {n : Nat} (hn : 0 < n) {m : Mv} : m ∈ shvL n ↔ m.w = .stay ∧ m.ok n := by
  unfold shvL
  rw [List.mem_map]
  constructor
  · rintro ⟨p, hp, rfl⟩
    have h1 := List.mem_range.mp hp
    have h2 : p / n < n := Nat.div_lt_of_lt_mul h1
    have h3 := Nat.mod_lt p hn
    exact ⟨rfl, Int.natCast_nonneg _, Int.ofNat_lt.mpr h2, Int.natCast_nonneg _, Int.ofNat_lt.mpr h3⟩
  · rintro ⟨hw, h1, h2, h3, h4⟩
    obtain ⟨a, ha⟩ : ∃ a : Nat, m.d = a := ⟨m.d.toNat, by omega⟩
    obtain ⟨b, hb⟩ : ∃ b : Nat, m.r = b := ⟨m.r.toNat, by omega⟩
    rw [ha] at h1 h2
    rw [hb] at h3 h4
    have hab : a < n := by omega
    have hbn : b < n := by omega
    have e1 : a * n + b < n * n := by
      have : (a + 1) * n ≤ n * n := Nat.mul_le_mul_right _ (by omega)
      rw [Nat.add_mul] at this
      omega
    refine ⟨a * n + b, List.mem_range.mpr e1, ?_⟩
    have e2 : (a * n + b) / n = a := by rw [Nat.mul_comm, Nat.mul_add_div hn, Nat.div_eq_of_lt hbn, Nat.add_zero]
    have e3 : (a * n + b) % n = b := by rw [Nat.mul_comm, Nat.mul_add_mod, Nat.mod_eq_of_lt hbn]
    rw [e2, e3]
    cases m
    simp only at hw ha hb ⊢
    rw [hw, ha, hb]
theorem shvL_len (n : Nat) : (shvL n).length = n * n := by unfold shvL; rw [List.length_map, List.length_range]
/-- lattices: their makers and themselves -/
abbrev Lat := List Mv × List Mv
structure LatOk (n : Nat) (Lt : List Lat) : Prop where
  each : ∀ e ∈ Lt, e.1.length ≤ 2 ∧ (∀ m ∈ e.1, m.w = .stay ∧ m.ok n) ∧ e.2 = madeL n e.1
  all : ∀ a b : Mv, a.w = .stay → b.w = .stay → a.ok n → b.ok n → ∃ e ∈ Lt, e.2 = madeL n [a, b]
def latD (e : Lat) : D := .tup [.lst (e.1.map dM), .lst (e.2.map dM)]
def latK (Lt : List Lat) : List (D × D) := Lt.map fun e => (.tup (e.2.map dM), .bl true)
theorem nkL_dM : ∀ L : List Mv, nkL (L.map dM) = some (L.map nkM)
  | [] => rfl
  | m :: L => by
    rw [List.map_cons, nkL, nk_dM]
    show (nkL (L.map dM)).map _ = _
    rw [nkL_dM L]
    rfl
def nkT (L : List Mv) : NestedKey := .tup (L.map nkM)
theorem nk_tup (L : List Mv) : nkD (.tup (L.map dM)) = some (nkT L) := by
  show (nkL (L.map dM)).map NestedKey.tup = _
  rw [nkL_dM]; rfl
theorem nkT_deep (L : List Mv) : (nkT L).depth ≤ 8 := by
  have key : ∀ L : List Mv, NestedKey.depthAll (L.map nkM) ≤ 1 := fun L => by
    induction L with
    | nil => exact Nat.zero_le _
    | cons m L ih =>
      show max (nkM m).depth (NestedKey.depthAll (L.map nkM)) ≤ 1
      have : (nkM m).depth = 1 := rfl
      omega
  show NestedKey.depthAll (L.map nkM) + 1 ≤ 8
  have := key L
  omega
theorem map_nkM_inj : ∀ {A B : List Mv}, A.map nkM = B.map nkM → A = B
  | [], [], _ => rfl
  | [], _ :: _, h => by simp at h
  | _ :: _, [], h => by simp at h
  | a :: A, b :: B, h => by
    rw [List.map_cons, List.map_cons, List.cons.injEq] at h
    rw [nkM_inj h.1, map_nkM_inj h.2]
theorem nkT_inj {A B : List Mv} (h : nkT A = nkT B) : A = B := by
  unfold nkT at h
  injection h with h
  exact map_nkM_inj h
theorem latK_some (Lt : List Lat) (L : List Mv) : (dgetX (latK Lt) (nkT L)).isSome = decide (L ∈ Lt.map (·.2)) := by
  unfold dgetX latK
  rw [Option.isSome_map, Bool.eq_iff_iff, List.find?_isSome, decide_eq_true_eq, List.mem_map]
  constructor
  · rintro ⟨x, hx, e⟩
    obtain ⟨q, hq, rfl⟩ := List.mem_map.mp hx
    rw [decide_eq_true_eq, nk_tup] at e
    exact ⟨q, hq, nkT_inj (Option.some.inj e)⟩
  · rintro ⟨q, hq, e⟩
    refine ⟨_, List.mem_map.mpr ⟨q, hq, rfl⟩, ?_⟩
    rw [decide_eq_true_eq, nk_tup, e]
theorem latK_put {Lt : List Lat} {e : Lat} (h : e.2 ∉ Lt.map (·.2)) : dputX (latK Lt) (.tup (e.2.map dM)) (.bl true) = latK (Lt ++ [e]) := by
  unfold dputX
  rw [if_neg]
  · unfold latK; rw [List.map_append]; rfl
  · rw [Bool.not_eq_true, List.any_eq_false]
    intro x hx z
    obtain ⟨q, hq, rfl⟩ := List.mem_map.mp hx
    rw [decide_eq_true_eq, nk_tup, nk_tup] at z
    exact h (List.mem_map.mpr ⟨q, hq, nkT_inj (Option.some.inj z)⟩)
theorem latK_len (Lt : List Lat) : (latK Lt).length = Lt.length := List.length_map _
theorem notinX_lat {Lt : List Lat} {L : List Mv} {b : Bool} {Q : RV → Prop} (h : decide (L ∈ Lt.map (·.2)) = b) (q : Q (.val (.bl (!b)))) : opInX true (.tup (L.map dM)) (.dix (latK Lt)) Q :=
  ⟨rfl, nkT L, nk_tup L, nkT_deep L, by rw [latK_some, h, Bool.true_xor]; exact q⟩
open Classical in
theorem made_iff {n : Nat} {A B : List Mv} (h : ∀ m, Reach n A m ↔ Reach n B m) : madeL n A = madeL n B := by
  unfold madeL
  refine List.filter_congr fun m _ => ?_
  exact decide_eq_decide.mpr (h m)
/-- without the one that stays -/
def noStay (L : List Mv) : List Mv := L.filter fun m => !decide (m = stayM)
theorem made_noStay {n : Nat} (hn : 0 < n) (L : List Mv) : madeL n (noStay L) = madeL n L := by
  have key : ∀ m, Reach n L m ↔ Reach n (noStay L) m := fun m => by
    constructor
    · intro h
      induction h with
      | stay => exact .stay
      | @step m x hm hx ih =>
        by_cases e : x = stayM
        · subst e
          rw [thn_stay _ (hm.ok hn)]
          exact ih
        · exact .step ih (List.mem_filter.mpr ⟨hx, by simp [e]⟩)
    · exact reach_congr fun x hx => (List.mem_filter.mp hx).1
  exact made_iff fun m => (key m).symm
theorem ne_stayM {m : Mv} {Q : RV → Prop} {b : Bool} (h : decide (m = stayM) = b) (q : Q (.val (.bl (!b)))) : opNe (dM m) (.tup [.str "stay", .int 0, .int 0]) Q := by
  refine ⟨ok_M, by decide +kernel, ?_⟩
  have : decide ((dM m).un = (D.tup [.str "stay", .int 0, .int 0]).un) = b := by
    rw [← h, Bool.eq_iff_iff, decide_eq_true_eq, decide_eq_true_eq]
    constructor
    · intro e
      have e : dM m = dM stayM := e
      exact dM_inj e
    · rintro rfl; rfl
  rw [this]; exact q
def LatOk0 (n : Nat) (Lt : List Lat) : Prop := ∀ e ∈ Lt, e.1.length ≤ 2 ∧ (∀ m ∈ e.1, m.w = .stay ∧ m.ok n) ∧ e.2 = madeL n e.1
theorem shv_map (n : Nat) : (rgD 0 (n * n)).map (fun d => match d with | .int i => dM ⟨.stay, i / n, i % n⟩ | _ => .non) = (shvL n).map dM := by
  unfold shvL
  rw [List.map_map]
  unfold rgD
  rw [List.map_map]
  refine List.map_congr_left fun p _ => ?_
  show dM ⟨.stay, (0 + (p : Int)) / n, (0 + (p : Int)) % n⟩ = dM ⟨.stay, ((p / n : Nat) : Int), ((p % n : Nat) : Int)⟩
  rw [Int.zero_add, Int.natCast_ediv, Int.natCast_emod]
theorem latOk0_nil (n : Nat) : LatOk0 n [] := fun e he => nomatch he
theorem ns_map (L : List Mv) : (L.map dM).filter (fun d => !decide (d = dM stayM)) = (noStay L).map dM := by
  unfold noStay
  rw [List.filter_map]
  congr 1
  refine List.filter_congr fun m _ => ?_
  show (!decide (dM m = dM stayM)) = !decide (m = stayM)
  congr 1
  rw [Bool.eq_iff_iff, decide_eq_true_eq, decide_eq_true_eq]
  exact ⟨dM_inj, fun e => by rw [e]⟩
/-! ### one start for each coset of the shoves; lifts of a head -/
def shfP (n : Nat) (p : Pl) (s : Mv) : Pl := ((p.1 + s.d) % n, (p.2 + s.r) % n)
structure StOk (n : Nat) (S : List Mv) (st : List Pl) : Prop where
  sub : ∀ p ∈ st, p ∈ allP n
  all : ∀ p ∈ allP n, ∃ q ∈ st, ∃ s ∈ S, shfP n q s = p
structure LiftOk (n : Nat) (H : List Way) (S : List Mv) (A : List (List Mv)) : Prop where
  each : ∀ a ∈ A, a.map (·.w) = H ∧ ∀ m ∈ a, m.ok n
  all : ∀ X : List Mv, X.map (·.w) = H → (∀ m ∈ X, m.ok n) → ∃ a ∈ A, ∀ (i : Nat) (m x : Mv), a[i]? = some m → X[i]? = some x → ∃ s ∈ S, thn n m s = x
def liftS (st : List Pl) (w : Way) (A : List (List Mv)) : List (List Mv) := A.flatMap fun a => st.map fun p => a ++ [⟨w, p.1, p.2⟩]
theorem thn_sh {n : Nat} {w : Way} {p : Pl} {s : Mv} (hs : s.w = .stay) : thn n ⟨w, p.1, p.2⟩ s = ⟨w, (shfP n p s).1, (shfP n p s).2⟩ := by
  cases s
  simp only at hs
  subst hs
  unfold thn shfP
  cases w <;> rfl
theorem lift_nil (n : Nat) (S : List Mv) : LiftOk n [] S [[]] where
  each := fun a ha => by rw [List.mem_singleton.mp ha]; exact ⟨rfl, fun m hm => nomatch hm⟩
  all := fun X hX _ => ⟨[], by simp, fun i m x e => by cases e⟩
theorem lift_step {n : Nat} {H : List Way} {S : List Mv} {A : List (List Mv)} {st : List Pl} {w : Way} (hS : ∀ s ∈ S, s.w = .stay) (h : LiftOk n H S A) (k : StOk n S st) : LiftOk n (H ++ [w]) S (liftS st w A) where
  each := fun a ha => by
    obtain ⟨b, hb, ha⟩ := List.mem_flatMap.mp ha
    obtain ⟨p, hp, rfl⟩ := List.mem_map.mp ha
    obtain ⟨h1, h2⟩ := h.each b hb
    refine ⟨by rw [List.map_append, h1]; rfl, fun m hm => ?_⟩
    rcases List.mem_append.mp hm with hm | hm
    · exact h2 m hm
    · rw [List.mem_singleton.mp hm]
      obtain ⟨a1, a2, a3, a4⟩ := mem_allP.mp (k.sub p hp)
      exact ⟨a1, a2, a3, a4⟩
  all := fun X hX hok => by
    have hl : X.length = H.length + 1 := by
      have := congrArg List.length hX
      simpa using this
    have hne : X ≠ [] := by rintro rfl; simp at hl
    obtain ⟨Y, x, rfl⟩ : ∃ Y x, X = Y ++ [x] := ⟨_, _, (List.dropLast_concat_getLast hne).symm⟩
    rw [List.map_append, List.map_singleton] at hX
    obtain ⟨hY, hx⟩ := List.append_inj' hX rfl
    have hx : x.w = w := by injection hx
    obtain ⟨a, ha, hal⟩ := h.all Y hY fun m hm => hok m (by simp [hm])
    obtain ⟨x1, x2, x3, x4⟩ := hok x (by simp)
    obtain ⟨q, hq, s, hs, e⟩ := k.all (x.d, x.r) (mem_allP.mpr ⟨x1, x2, x3, x4⟩)
    refine ⟨a ++ [⟨w, q.1, q.2⟩], List.mem_flatMap.mpr ⟨a, ha, List.mem_map.mpr ⟨q, hq, rfl⟩⟩, fun i m y e1 e2 => ?_⟩
    have hla : a.length = Y.length := by
      have h1 := congrArg List.length (h.each a ha).1
      have h2 := congrArg List.length hY
      rw [List.length_map] at h1 h2
      omega
    by_cases hi : i < Y.length
    · rw [List.getElem?_append_left (by omega)] at e1
      rw [List.getElem?_append_left hi] at e2
      exact hal i m y e1 e2
    · have hi2 := (List.getElem?_eq_some_iff.mp e2).1
      rw [List.length_append, List.length_singleton] at hi2
      have : i = Y.length := by omega
      subst this
      rw [List.getElem?_append_right (by omega), hla, Nat.sub_self] at e1
      rw [List.getElem?_append_right (Nat.le_refl _), Nat.sub_self] at e2
      cases e1
      cases e2
      refine ⟨s, hs, ?_⟩
      rw [thn_sh (hS s hs), e]
      cases x
      simp only at hx ⊢
      rw [hx]
def aD (a : List Mv) : D := .lst (a.map dM)
def insP (F : List Pl) (p : Pl) : List Pl := if p ∈ F then F else F ++ [p]
theorem mem_insP {F : List Pl} {p q : Pl} : q ∈ insP F p ↔ q ∈ F ∨ q = p := by
  unfold insP
  split
  · constructor
    · exact .inl
    · rintro (h | rfl)
      · exact h
      · assumption
  · rw [List.mem_append, List.mem_singleton]
theorem nodup_insP {F : List Pl} {p : Pl} (h : F.Nodup) : (insP F p).Nodup := by
  unfold insP
  split
  · exact h
  · rw [List.nodup_append]
    exact ⟨h, by simp, fun a ha b hb e => by rw [List.mem_singleton] at hb; subst hb e; contradiction⟩
theorem kvP_ins (F : List Pl) (p : Pl) : dput (kvA dP (fun _ => D.bl true) F) (dP p) (.bl true) = kvA dP (fun _ => D.bl true) (insP F p) := by
  unfold insP
  split
  · rename_i h
    unfold dput
    rw [if_pos]
    · unfold kvA
      rw [List.map_map]
      refine List.map_congr_left fun q _ => ?_
      show (if dP q = dP p then (dP q, D.bl true) else (dP q, D.bl true)) = _
      rw [ite_self]
    · rw [List.any_eq_true]
      exact ⟨(dP p, .bl true), List.mem_map.mpr ⟨p, h, rfl⟩, decide_eq_true rfl⟩
  · rename_i h
    exact kvA_put (k := dP) dP_inj (v := fun _ => D.bl true) h
/-- starts and places met so far -/
structure LI (n : Nat) (S : List Mv) (F st : List Pl) : Prop where
  nd : F.Nodup
  sub : ∀ p ∈ F, p ∈ allP n
  stS : ∀ q ∈ st, q ∈ allP n
  cov : ∀ p ∈ F, ∃ q ∈ st, ∃ s ∈ S, shfP n q s = p
theorem LI.nil (n : Nat) (S : List Mv) : LI n S [] [] := ⟨by simp, (by simp), (by simp), (by simp)⟩
theorem LI.len {n : Nat} {S : List Mv} {F st : List Pl} (h : LI n S F st) : F.length ≤ n * n := by
  rw [← allP_len n]
  exact nodup_le h.nd h.sub
theorem shfP_in {n : Nat} (hn : 0 < n) (p : Pl) (s : Mv) : shfP n p s ∈ allP n :=
  mem_allP.mpr ⟨Int.emod_nonneg _ (by omega), Int.emod_lt_of_pos _ (by omega), Int.emod_nonneg _ (by omega), Int.emod_lt_of_pos _ (by omega)⟩
theorem LI.start {n : Nat} {S : List Mv} {F st : List Pl} {p : Pl} (h : LI n S F st) (hp : p ∈ allP n) : LI n S F (st ++ [p]) :=
  ⟨h.nd, h.sub, fun q hq => by
    rcases List.mem_append.mp hq with hq | hq
    · exact h.stS q hq
    · rw [List.mem_singleton.mp hq]; exact hp, fun x hx => by
    obtain ⟨q, hq, r⟩ := h.cov x hx
    exact ⟨q, List.mem_append_left _ hq, r⟩⟩
theorem LI.put {n : Nat} (hn : 0 < n) {S : List Mv} {F st : List Pl} {p : Pl} {s : Mv} (h : LI n S F st) (hp : p ∈ st) (hs : s ∈ S) : LI n S (insP F (shfP n p s)) st :=
  ⟨nodup_insP h.nd, fun x hx => by
    rcases mem_insP.mp hx with hx | rfl
    · exact h.sub x hx
    · exact shfP_in hn p s, h.stS, fun x hx => by
    rcases mem_insP.mp hx with hx | rfl
    · exact h.cov x hx
    · exact ⟨p, hp, s, hs, rfl⟩⟩
theorem LI.ok {n : Nat} {S : List Mv} {F st : List Pl} (h : LI n S F st) (all : ∀ a b : Nat, a < n → b < n → ((a : Int), (b : Int)) ∈ F) : StOk n S st :=
  ⟨h.stS, fun p hp => by
    obtain ⟨a1, a2, a3, a4⟩ := mem_allP.mp hp
    have := all p.1.toNat p.2.toNat (by omega) (by omega)
    rw [show ((p.1.toNat : Nat) : Int) = p.1 by omega, show ((p.2.toNat : Nat) : Int) = p.2 by omega] at this
    exact h.cov p this⟩
theorem shfP_stay {n : Nat} {p : Pl} (hp : p ∈ allP n) : shfP n p stayM = p := by
  obtain ⟨a1, a2, a3, a4⟩ := mem_allP.mp hp
  show ((p.1 + 0) % (n : Int), (p.2 + 0) % (n : Int)) = p
  rw [Int.add_zero, Int.add_zero, Int.emod_eq_of_lt a1 a2, Int.emod_eq_of_lt a3 a4]
theorem kvP_insD {n : Int} {F : List Pl} {a b d r : Int} : dput (kvA dP (fun _ => D.bl true) F) (.tup [.int ((a + d) % n), .int ((b + r) % n)]) (.bl true) = kvA dP (fun _ => D.bl true) (insP F ((a + d) % n, (b + r) % n)) := kvP_ins F ((a + d) % n, (b + r) % n)
theorem liftS_len (st : List Pl) (w : Way) (A : List (List Mv)) : (liftS st w A).length = A.length * st.length := by
  unfold liftS
  induction A with
  | nil => simp
  | cons a A ih => rw [List.flatMap_cons, List.length_append, List.length_map, ih, List.length_cons, Nat.add_mul]; omega
def liftF (a : List Mv) (w : Way) (d : D) : D := match d with
  | .tup [x, y] => .lst (a.map dM ++ [.tup [.str w.str, x, y]])
  | _ => .non
theorem lifts_map (st : List Pl) (w : Way) (a : List Mv) : (st.map dP).map (liftF a w) = (st.map fun p => a ++ [(⟨w, p.1, p.2⟩ : Mv)]).map aD := by
  rw [List.map_map, List.map_map]
  refine List.map_congr_left fun p _ => ?_
  show D.lst (a.map dM ++ [.tup [.str w.str, .int p.1, .int p.2]]) = .lst ((a ++ [(⟨w, p.1, p.2⟩ : Mv)]).map dM)
  rw [List.map_append]
  rfl
theorem liftS_snoc {st : List Pl} {w : Way} {A : List (List Mv)} {k : Nat} {a : List Mv} (h : A[k]? = some a) : liftS st w (A.take (k + 1)) = liftS st w (A.take k) ++ st.map fun p => a ++ [⟨w, p.1, p.2⟩] := by
  unfold liftS
  rw [take_snoc h, List.flatMap_append, List.flatMap_cons, List.flatMap_nil, List.append_nil]
/-! ### all groups -/
def headW : List (List Way) := [[], [.half], [.side], [.flip], [.cross], [.other], [.turn], [.half, .side], [.half, .cross], [.turn, .side]]
def sizeW : List Nat := [1, 2, 2, 2, 2, 2, 4, 4, 4, 8]
abbrev Grp := List Mv × Nat
def grpD (g : Grp) : D := .tup [.lst (g.1.map dM), .int (g.2 : Nat)]
/-- few shoves, then lifts of a head -/
def GrpIs (n : Nat) (g : Grp) : Prop := ∃ (few a : List Mv) (k : Nat), headW[k]? = some (a.map (·.w)) ∧ sizeW[k]? = some g.2 ∧ g.1 = few ++ a ∧ few.length ≤ 2 ∧ (∀ m ∈ few, m.w = .stay ∧ m.ok n) ∧ ∀ m ∈ a, m.ok n
def GrpHas (n : Nat) (G : List Grp) (S : List Mv) (X : List Mv) : Prop := ∃ g ∈ G, ∃ (few a : List Mv), g.1 = few ++ a ∧ (∀ m ∈ few, m.w = .stay ∧ m.ok n) ∧ madeL n few = S ∧ a.map (·.w) = X.map (·.w) ∧ (∀ m ∈ a, m.ok n) ∧ ∀ (i : Nat) (m z : Mv), a[i]? = some m → X[i]? = some z → ∃ s ∈ S, thn n m s = z
structure GroupsOk (n : Nat) (G : List Grp) : Prop where
  each : ∀ g ∈ G, GrpIs n g
  all : ∀ x y : Mv, x.w = .stay → y.w = .stay → x.ok n → y.ok n → ∀ X : List Mv, X.map (·.w) ∈ headW → (∀ m ∈ X, m.ok n) → GrpHas n G (madeL n [x, y]) X
/-- so far: for the pairs (lattice, head) told by D -/
structure GrpI (n : Nat) (G : List Grp) (done : Lat → Nat → Prop) : Prop where
  each : ∀ g ∈ G, GrpIs n g
  all : ∀ (e : Lat) (k : Nat), done e k → ∀ X : List Mv, headW[k]? = some (X.map (·.w)) → (∀ m ∈ X, m.ok n) → GrpHas n G e.2 X
theorem GrpI.nil (n : Nat) {done : Lat → Nat → Prop} (h : ∀ e k, ¬ done e k) : GrpI n [] done := ⟨fun g hg => (by simp at hg), fun e k hd => absurd hd (h e k)⟩
theorem GrpI.ok {n : Nat} {G : List Grp} {Lt : List Lat} (h : GrpI n G (fun e k => e ∈ Lt)) (hL : LatOk n Lt) : GroupsOk n G where
  each := h.each
  all := fun x y hx hy ox oy X hX hok => by
    obtain ⟨e, he, e2⟩ := hL.all x y hx hy ox oy
    obtain ⟨k, hk⟩ := List.mem_iff_getElem?.mp hX
    have := h.all e k he X hk hok
    rw [e2] at this
    exact this
theorem made_stays {n : Nat} (hn : 0 < n) {L : List Mv} (h : ∀ m ∈ L, m.w = .stay) : ∀ m ∈ madeL n L, m.w = .stay := fun m hm => by
  have r := (mem_madeL hn).mp hm
  induction r with
  | stay => rfl
  | @step a x _ hx ih =>
    have h2 := h x hx
    have h1 := ih ((mem_madeL hn).mpr ‹_›)
    show mulW a.w x.w = .stay
    rw [h1, h2]; rfl
theorem stay_made {n : Nat} (hn : 0 < n) (L : List Mv) : stayM ∈ madeL n L := (mem_madeL hn).mpr .stay
def hdWD (H : List Way) : D := .ktup (H.map fun w => D.str w.str)
theorem GrpI.step {n : Nat} {G : List Grp} {done done' : Lat → Nat → Prop} (h : GrpI n G done) {e : Lat} {k : Nat} {H : List Way} {z : Nat} {A : List (List Mv)} (hH : headW[k]? = some H) (hz : sizeW[k]? = some z)
    (he : e.1.length ≤ 2 ∧ (∀ m ∈ e.1, m.w = .stay ∧ m.ok n) ∧ e.2 = madeL n e.1) (hA : LiftOk n H e.2 A) (hd : ∀ e' k', done' e' k' → done e' k' ∨ (e' = e ∧ k' = k)) :
    GrpI n (G ++ A.map fun a => (e.1 ++ a, z)) done' where
  each := fun g hg => by
    rcases List.mem_append.mp hg with hg | hg
    · exact h.each g hg
    · obtain ⟨a, ha, rfl⟩ := List.mem_map.mp hg
      obtain ⟨a1, a2⟩ := hA.each a ha
      exact ⟨e.1, a, k, by rw [a1]; exact hH, hz, rfl, he.1, he.2.1, a2⟩
  all := fun e' k' q X hX ok => by
    rcases hd e' k' q with q | ⟨rfl, rfl⟩
    · obtain ⟨g, hg, r⟩ := h.all e' k' q X hX ok
      exact ⟨g, List.mem_append_left _ hg, r⟩
    · rw [hH] at hX
      obtain ⟨a, ha, al⟩ := hA.all X (Option.some.inj hX).symm ok
      obtain ⟨a1, a2⟩ := hA.each a ha
      exact ⟨(e'.1 ++ a, z), List.mem_append_right _ (List.mem_map.mpr ⟨a, ha, rfl⟩), e'.1, a, rfl, he.2.1, he.2.2.symm, by rw [a1]; exact Option.some.inj hX, a2, al⟩
theorem add_fewA {A B : List Mv} {Q : RV → Prop} (hA : A.length ≤ 2) (hB : B.length ≤ 2) (q : Q (.fr (.lst ((A ++ B).map dM)))) : opAdd (.lst (A.map dM)) (.lst (B.map dM)) Q := by
  refine ⟨?_, by rw [List.map_append] at q; exact q⟩
  rw [List.length_map, List.length_map]
  exact sle_of (by omega)
/-! ### the best of them -/
noncomputable def chg (n : Nat) (L : List Mv) (f : Cp) : Nat := (diffL n (menF n L f) f).length
noncomputable def lensL (n : Nat) (L : List Mv) : List Nat := (rootsL n L).map fun p => (circP n L p).length
noncomputable def bnd (n : Nat) (g : Grp) : Nat := g.2 * (lensL n g.1).foldl Nat.gcd 0
noncomputable def szM (n : Nat) (L : List Mv) : Nat := (madeL n L).length
def btr (n : Nat) (f : Cp) (few : List Mv) (x : Nat) (L : List Mv) : Prop := szM n few < x ∨ (szM n few = x ∧ chg n L f < chg n few f)
structure BestI (n : Nat) (f : Cp) (most : Int) (T : Grp → Prop) (few : List Mv) : Prop where
  ok : ∀ m ∈ few, m.ok n
  len : few.length ≤ 4
  low : (chg n few f : Int) ≤ most
  top : ∀ g, T g → (chg n g.1 f : Int) ≤ most → ¬ btr n f few (bnd n g) g.1 ∨ ¬ btr n f few (szM n g.1) g.1
theorem grp_few {n : Nat} {g : Grp} (h : GrpIs n g) : g.1.length ≤ 4 ∧ (∀ m ∈ g.1, m.ok n) ∧ g.2 ≤ 8 := by
  obtain ⟨few, a, k, h1, h2, h3, h4, h5, h6⟩ := h
  have e1 : a.length ≤ 2 := by
    have := (by decide : ∀ H ∈ headW, H.length ≤ 2) _ (List.mem_of_getElem? h1)
    rwa [List.length_map] at this
  refine ⟨by rw [h3, List.length_append]; omega, fun m hm => ?_, (by decide : ∀ z ∈ sizeW, z ≤ 8) _ (List.mem_of_getElem? h2)⟩
  rw [h3] at hm
  rcases List.mem_append.mp hm with hm | hm
  · exact (h5 m hm).2
  · exact h6 m hm
theorem BestI.keep {n : Nat} {f : Cp} {most : Int} {G : List Grp} {few : List Mv} {i : Nat} {g : Grp} (h : BestI n f most (· ∈ G.take i) few) (hg : G[i]? = some g)
    (hn : (chg n g.1 f : Int) ≤ most → ¬ btr n f few (bnd n g) g.1 ∨ ¬ btr n f few (szM n g.1) g.1) : BestI n f most (· ∈ G.take (i + 1)) few :=
  ⟨h.ok, h.len, h.low, fun x hx => by
    rw [take_snoc hg] at hx
    rcases List.mem_append.mp hx with hx | hx
    · exact h.top x hx
    · rw [List.mem_singleton.mp hx]; exact hn⟩
theorem BestI.new {n : Nat} {f : Cp} {most : Int} {G : List Grp} {few : List Mv} {i : Nat} {g : Grp} (h : BestI n f most (· ∈ G.take i) few) (hg : G[i]? = some g) (hi : GrpIs n g) (hl : (chg n g.1 f : Int) ≤ most)
    (hb : btr n f few (szM n g.1) g.1) : BestI n f most (· ∈ G.take (i + 1)) g.1 := by
  obtain ⟨g1, g2, g3⟩ := grp_few hi
  refine ⟨g2, g1, hl, fun x hx hx2 => ?_⟩
  rw [take_snoc hg] at hx
  rcases List.mem_append.mp hx with hx | hx
  · have up : ∀ y, ¬ btr n f few y x.1 → ¬ btr n f g.1 y x.1 := fun y => by
      unfold btr at hb ⊢
      omega
    rcases h.top x hx hx2 with q | q
    · exact .inl (up _ q)
    · exact .inr (up _ q)
  · rw [List.mem_singleton.mp hx]
    refine .inr ?_
    unfold btr
    omega
theorem chg_flat {n : Nat} (hn : 0 < n) {L : List Mv} (ok : ∀ m ∈ L, m.ok n) {f : Cp} (hf : okC f) (h : Flat n L f) : chg n L f = 0 := by
  have := men_least hn ok hf h
  have e : (diffL n f f).length = 0 := by
    unfold diffL
    rw [List.filter_eq_nil_iff.mpr fun p _ => by simp]
    rfl
  unfold chg
  omega
theorem rch_nil {n : Nat} {p q : Pl} (h : RchP n [] p q) : q = p := by
  induction h with
  | start h => exact List.mem_singleton.mp h
  | step _ h => cases h
theorem chg_nil {n : Nat} (hn : 0 < n) {f : Cp} (hf : okC f) : chg n [] f = 0 :=
  chg_flat hn (by simp) hf fun r _ q hq => by rw [rch_nil (mem_circP.mp hq).2]
/-! ### all movements of a side -/
def plsD : D → List Pl
  | .lst xs => xs.map fun d => match d with | .tup [.int a, .int b] => (a, b) | _ => (0, 0)
  | _ => []
theorem plsD_dLP (ps : List Pl) : plsD (dLP ps) = ps := by
  show (ps.map dP).map _ = ps
  rw [List.map_map]
  exact (List.map_congr_left (fun p _ => rfl)).trans (List.map_id ps)
noncomputable def mhF (f : Cp) (d : D) : D := .int (modeM (colsL f (plsD d)) (modeX (colsL f (plsD d))))
def lnF (d : D) : D := .int ((plsD d).length : Nat)
theorem mh_map (n : Nat) (L : List Mv) (f : Cp) : ((rootsL n L).map fun p => dLP (circP n L p)).map (mhF f) = ((SM n L f).map fun q => modeM (colsL f (circP n L q.1)) q.2).map D.int := by
  unfold SM
  rw [List.map_map, List.map_map, List.map_map]
  refine List.map_congr_left fun p _ => ?_
  show mhF f (dLP (circP n L p)) = _
  unfold mhF
  rw [plsD_dLP]
  rfl
theorem ln_map (n : Nat) (L : List Mv) : ((rootsL n L).map fun p => dLP (circP n L p)).map lnF = (lensL n L).map fun x => D.int ((x : Nat) : Int) := by
  unfold lensL
  rw [List.map_map, List.map_map]
  refine List.map_congr_left fun p _ => ?_
  show lnF (dLP (circP n L p)) = _
  unfold lnF
  rw [plsD_dLP]
  rfl
theorem gcd_le9 : ∀ (xs : List Nat) (a : Nat), a ≤ 9 → (∀ x ∈ xs, x ≤ 9) → xs.foldl Nat.gcd a ≤ 9
  | [], a, ha, _ => ha
  | x :: xs, a, ha, h => by
    rw [List.foldl_cons]
    refine gcd_le9 xs _ ?_ fun y hy => h y (List.mem_cons_of_mem _ hy)
    rcases Nat.eq_zero_or_pos a with rfl | hp
    · rw [Nat.gcd_zero_left]; exact h x List.mem_cons_self
    · exact Nat.le_trans (Nat.gcd_le_left _ hp) ha
end VN

/-! WZD: all movements of a side; one colour (k95) -/
namespace VN
open PySem VS PySem.W
theorem led_reach {n : Nat} {L : List Mv} {m : Mv} (h : Reach n L m) {p : Pl} (hp : p ∈ allP n) : RchP n L p (ledP n p m) := by
  induction h with
  | stay => rw [ledP_stay hp]; exact rchP_refl p
  | step _ hx ih => rw [ledP_thn]; exact .step ih hx
def oneX (n x : Nat) : D → D := fun _ => .str (rowS n fun _ => x)
end VN

/-! WZE: what a list of movements comes to depends on what it makes alone (k94, k96) -/
namespace VN
open PySem VS PySem.W
theorem rch_iff {n : Nat} {L : List Mv} {p q : Pl} (hp : p ∈ allP n) : RchP n L p q ↔ ∃ m, Reach n L m ∧ ledP n p m = q := by
  constructor
  · intro h
    induction h with
    | start h =>
      rw [List.mem_singleton.mp h]
      exact ⟨stayM, .stay, ledP_stay hp⟩
    | step _ hx ih =>
      obtain ⟨m, hm, rfl⟩ := ih
      exact ⟨_, .step hm hx, ledP_thn _ _ _ _⟩
  · rintro ⟨m, hm, rfl⟩
    exact led_reach hm hp
open Classical in
theorem circ_congr {n : Nat} {A B : List Mv} (h : ∀ m, Reach n A m ↔ Reach n B m) {p : Pl} (hp : p ∈ allP n) : circP n A p = circP n B p := by
  unfold circP
  refine List.filter_congr fun q _ => ?_
  refine decide_eq_decide.mpr ?_
  rw [rch_iff hp, rch_iff hp]
  exact ⟨fun ⟨m, a, b⟩ => ⟨m, (h m).mp a, b⟩, fun ⟨m, a, b⟩ => ⟨m, (h m).mpr a, b⟩⟩
theorem root_congr {n : Nat} {A B : List Mv} (h : ∀ m, Reach n A m ↔ Reach n B m) {p : Pl} (hp : p ∈ allP n) : rootP n A p = rootP n B p := by
  unfold rootP
  rw [circ_congr h hp]
open Classical in
theorem chg_congr {n : Nat} {A B : List Mv} (h : ∀ m, Reach n A m ↔ Reach n B m) (f : Cp) : chg n A f = chg n B f := by
  unfold chg diffL
  congr 1
  refine List.filter_congr fun p hp => ?_
  have e : menF n A f p.1 p.2 = menF n B f p.1 p.2 := by
    unfold menF
    show modC n A f (rootP n A p) = modC n B f (rootP n B p)
    rw [root_congr h hp]
    unfold modC
    rw [circ_congr h (rootP_in hp)]
  rw [e]
theorem reach_iff {n : Nat} (hn : 0 < n) {A B : List Mv} (h : madeL n A = madeL n B) (m : Mv) : Reach n A m ↔ Reach n B m := by
  rw [← mem_madeL hn, ← mem_madeL hn, h]
/-! ### ways: each closed set of them is what one of the heads makes -/
def cloN (H : List Way) : Nat → List Way
  | 0 => [.stay]
  | k + 1 => cloN H k ++ (cloN H k).flatMap fun a => H.map (mulW a)
theorem cloN_ind {H : List Way} {R : Way → Prop} (h0 : R .stay) (hs : ∀ a h, R a → h ∈ H → R (mulW a h)) : ∀ k, ∀ w ∈ cloN H k, R w
  | 0, w, hw => by rw [List.mem_singleton.mp hw]; exact h0
  | k + 1, w, hw => by
    rcases List.mem_append.mp hw with hw | hw
    · exact cloN_ind h0 hs k w hw
    · obtain ⟨a, ha, hw⟩ := List.mem_flatMap.mp hw
      obtain ⟨h, hh, rfl⟩ := List.mem_map.mp hw
      exact hs a h (cloN_ind h0 hs k a ha) hh
def vB (b1 b2 b3 b4 b5 b6 b7 : Bool) : Way → Bool
  | .stay => true | .turn => b1 | .half => b2 | .back => b3 | .side => b4 | .flip => b5 | .cross => b6 | .other => b7
theorem head_dec : ∀ b1 b2 b3 b4 b5 b6 b7 : Bool, (∀ a ∈ ways, ∀ c ∈ ways, vB b1 b2 b3 b4 b5 b6 b7 a = true → vB b1 b2 b3 b4 b5 b6 b7 c = true → vB b1 b2 b3 b4 b5 b6 b7 (mulW a c) = true) →
    ∃ H ∈ headW, (∀ h ∈ H, vB b1 b2 b3 b4 b5 b6 b7 h = true) ∧ ∀ w ∈ ways, vB b1 b2 b3 b4 b5 b6 b7 w = true → w ∈ cloN H 4 := by decide +kernel
open Classical in
theorem head_of {R : Way → Prop} (h0 : R .stay) (hm : ∀ a c, R a → R c → R (mulW a c)) : ∃ H ∈ headW, (∀ h ∈ H, R h) ∧ ∀ w, R w → w ∈ cloN H 4 := by
  have e : ∀ w, vB (decide (R .turn)) (decide (R .half)) (decide (R .back)) (decide (R .side)) (decide (R .flip)) (decide (R .cross)) (decide (R .other)) w = true ↔ R w := fun w => by
    cases w
    · exact ⟨fun _ => h0, fun _ => rfl⟩
    all_goals exact decide_eq_true_iff
  obtain ⟨H, hH, h1, h2⟩ := head_dec (decide (R .turn)) (decide (R .half)) (decide (R .back)) (decide (R .side)) (decide (R .flip)) (decide (R .cross)) (decide (R .other)) fun a _ c _ ha hc => (e _).mpr (hm a c ((e a).mp ha) ((e c).mp hc))
  refine ⟨H, hH, fun h hh => (e h).mp (h1 h hh), fun w hw => h2 w ?_ ((e w).mpr hw)⟩
  cases w <;> decide
/-! ### shoves: each closed set of them is made by two (sides to 3) -/
def ptsN (n : Nat) : List (Nat × Nat) := (List.range (n * n)).map fun k => (k / n, k % n)
def pB (n : Nat) (b : List Bool) (p : Nat × Nat) : Bool := b.getD (p.1 * n + p.2) false
def addN (n : Nat) (p q : Nat × Nat) : Nat × Nat := ((p.1 + q.1) % n, (p.2 + q.2) % n)
def twoN (n : Nat) (b : List Bool) : Prop := (∀ p ∈ ptsN n, ∀ q ∈ ptsN n, pB n b p = true → pB n b q = true → pB n b (addN n p q) = true) →
  ∃ x ∈ ptsN n, pB n b x = true ∧ ∃ y ∈ ptsN n, pB n b y = true ∧ ∀ z ∈ ptsN n, pB n b z = true → ∃ i ∈ List.range n, ∃ j ∈ List.range n, z = ((i * x.1 + j * y.1) % n, (i * x.2 + j * y.2) % n)
instance (n : Nat) (b : List Bool) : Decidable (twoN n b) := by unfold twoN; infer_instance
theorem two_1 : twoN 1 [true] := by decide +kernel
theorem two_2 : ∀ b1 b2 b3 : Bool, twoN 2 [true, b1, b2, b3] := by decide +kernel
theorem two_3 : ∀ b1 b2 b3 b4 b5 b6 b7 b8 : Bool, twoN 3 [true, b1, b2, b3, b4, b5, b6, b7, b8] := by decide +kernel
/-! ### classes of one size: their size divides the whole -/
theorem cls_dvd {α : Type} (r : α → α → Bool) (k : Nat) (sy : ∀ a b, r a b = true → r b a = true) (tr : ∀ a b c, r a b = true → r b c = true → r a c = true) :
    ∀ (m : Nat) (C : List α), C.length ≤ m → (∀ c ∈ C, r c c = true) → (∀ c ∈ C, (C.filter (r c)).length = k) → k ∣ C.length
  | _, [], _, _, _ => Nat.dvd_zero k
  | 0, _ :: _, h, _, _ => by simp at h
  | m + 1, c :: C, h, hr, hk => by
    have hs : ((c :: C).filter (r c)).length + ((c :: C).filter fun x => !r c x).length = (c :: C).length := by
      rw [← List.countP_eq_length_filter, ← List.countP_eq_length_filter]
      have z := (List.length_eq_countP_add_countP (r c) (l := c :: C)).symm
      have e : (fun a => decide ¬ r c a = true) = fun x => !r c x := funext fun x => by cases r c x <;> rfl
      rw [e] at z
      exact z
    have hc := hk c List.mem_cons_self
    have hrc := hr c List.mem_cons_self
    have hlt : ((c :: C).filter fun x => !r c x).length ≤ m := by
      rw [List.filter_cons_of_neg (by simp [hrc])]
      have := List.length_filter_le (fun x => !r c x) C
      rw [List.length_cons] at h
      omega
    have ih := cls_dvd r k sy tr m ((c :: C).filter fun x => !r c x) hlt (fun x hx => hr x (List.mem_filter.mp hx).1) fun x hx => by
      have hx2 := (List.mem_filter.mp hx).2
      rw [List.filter_filter]
      rw [← hk x (List.mem_filter.mp hx).1]
      congr 1
      refine List.filter_congr fun y hy => ?_
      cases e : r x y
      · rfl
      · cases e2 : r c y
        · rfl
        · have := tr c y x e2 (sy x y e)
          rw [this] at hx2
          cases hx2
    rw [← hs, hc]
    exact Nat.dvd_add (Nat.dvd_refl k) ih
theorem sum_ways (G : List Mv) : ∀ Vs : List Way, (∀ m ∈ G, m.w ∈ Vs) → G.length ≤ (Vs.map fun w => (G.filter fun m => decide (m.w = w)).length).sum
  | [], h => by
    cases G with
    | nil => exact Nat.le_refl _
    | cons m G => exact absurd (h m List.mem_cons_self) (by simp)
  | w :: Vs, h => by
    have ih := sum_ways (G.filter fun m => !decide (m.w = w)) Vs fun m hm => by
      obtain ⟨h1, h2⟩ := List.mem_filter.mp hm
      rcases List.mem_cons.mp (h m h1) with e | e
      · simp [e] at h2
      · exact e
    have hs : G.length = (G.filter fun m => decide (m.w = w)).length + (G.filter fun m => !decide (m.w = w)).length := by
      have z := List.length_eq_countP_add_countP (fun m : Mv => decide (m.w = w)) (l := G)
      have e : (fun a : Mv => decide ¬ (decide (a.w = w)) = true) = fun x => !decide (x.w = w) := funext fun x => by cases decide (x.w = w) <;> rfl
      rw [e, List.countP_eq_length_filter, List.countP_eq_length_filter] at z
      exact z
    have hle : (Vs.map fun v => ((G.filter fun m => !decide (m.w = w)).filter fun m => decide (m.w = v)).length).sum ≤ (Vs.map fun v => (G.filter fun m => decide (m.w = v)).length).sum := by
      clear ih h
      induction Vs with
      | nil => exact Nat.le_refl _
      | cons v Vs ih2 =>
        rw [List.map_cons, List.map_cons, List.sum_cons, List.sum_cons]
        refine Nat.add_le_add ?_ ih2
        rw [List.filter_filter]
        rw [← List.countP_eq_length_filter, ← List.countP_eq_length_filter]
        exact List.countP_mono_left fun a _ ha => by
          rw [Bool.and_eq_true] at ha
          first | exact ha.1 | exact ha.2
    rw [List.map_cons, List.sum_cons]
    omega
/-- as many movements of one way as shoves at most -/
theorem way_le {n : Nat} (hn : 0 < n) (L : List Mv) (w : Way) : ((madeL n L).filter fun m => decide (m.w = w)).length ≤ ((madeL n L).filter fun m => decide (m.w = .stay)).length := by
  have hn' : (0 : Int) < n := by omega
  cases e : (madeL n L).filter fun m => decide (m.w = w) with
  | nil => exact Nat.zero_le _
  | cons m0 r =>
    have h0 : m0 ∈ (madeL n L).filter fun m => decide (m.w = w) := by rw [e]; exact List.mem_cons_self
    obtain ⟨h1, h2⟩ := List.mem_filter.mp h0
    have h2 : m0.w = w := of_decide_eq_true h2
    have r0 := (mem_madeL hn).mp h1
    have ok0 := r0.ok hn
    rw [← e, ← List.length_map (f := fun m => thn n m (inv n m0))]
    refine nodup_le ?_ ?_
    · have nd : ((madeL n L).filter fun m => decide (m.w = w)).Nodup := (madeL_nodup n L).filter _
      refine List.pairwise_map.mpr (List.Pairwise.imp_of_mem (fun {a b} ha hb hab e2 => hab ?_) nd)
      have oa := ((mem_madeL hn).mp (List.mem_filter.mp ha).1).ok hn
      have ob := ((mem_madeL hn).mp (List.mem_filter.mp hb).1).ok hn
      have e3 : thn n (thn n a (inv n m0)) m0 = thn n (thn n b (inv n m0)) m0 := congrArg (fun x => thn n x m0) e2
      rw [thn_assoc, thn_assoc, inv_thn hn' m0 ok0, thn_stay _ oa, thn_stay _ ob] at e3
      exact e3
    · intro x hx
      obtain ⟨m, hm, rfl⟩ := List.mem_map.mp hx
      obtain ⟨h3, h4⟩ := List.mem_filter.mp hm
      have h4 : m.w = w := of_decide_eq_true h4
      refine List.mem_filter.mpr ⟨(mem_madeL hn).mpr (reach_trans hn ((mem_madeL hn).mp h3) (inv_reach hn r0)), decide_eq_true ?_⟩
      show mulW m.w (invW m0.w) = .stay
      rw [h4, h2, (mulW_inv w).1]
/-- a shove of them leads q to q' -/
noncomputable def shvT (n : Nat) (L : List Mv) : List Mv := (madeL n L).filter fun m => decide (m.w = .stay)
theorem led_inj {n : Nat} (hn : 0 < n) {p : Pl} {a b : Mv} (ha : a.w = .stay) (hb : b.w = .stay) (oa : a.ok n) (ob : b.ok n) (e : ledP n p a = ledP n p b) : a = b := by
  have hn' : (0 : Int) < n := by omega
  obtain ⟨wa, da, ra⟩ := a
  obtain ⟨wb, db, rb⟩ := b
  obtain ⟨a1, a2, a3, a4⟩ := oa
  obtain ⟨b1, b2, b3, b4⟩ := ob
  simp only at ha hb a1 a2 a3 a4 b1 b2 b3 b4
  subst ha hb
  have e1 : (p.1 + da) % (n : Int) = (p.1 + db) % n := congrArg Prod.fst e
  have e2 : (p.2 + ra) % (n : Int) = (p.2 + rb) % n := congrArg Prod.snd e
  have c1 : da % (n : Int) = db % n := (Int.emod_add_cancel_left (i := p.1)).mp e1
  have c2 : ra % (n : Int) = rb % n := (Int.emod_add_cancel_left (i := p.2)).mp e2
  rw [Int.emod_eq_of_lt a1 a2, Int.emod_eq_of_lt b1 b2] at c1
  rw [Int.emod_eq_of_lt a3 a4, Int.emod_eq_of_lt b3 b4] at c2
  rw [c1, c2]
end VN

/-! WZF: each wish makes what one of all groups makes; a group's bound (k94, k96) -/
namespace VN
open PySem VS PySem.W
/-- a closed set of movements -/
structure Clo (n : Nat) (R : Mv → Prop) : Prop where
  st : R stayM
  th : ∀ a b, R a → R b → R (thn n a b)
  iv : ∀ a, R a → R (inv n a)
  ok : ∀ a, R a → a.ok n
theorem reach_clo {n : Nat} (hn : 0 < n) (L : List Mv) : Clo n (Reach n L) := ⟨.stay, fun _ _ => reach_trans hn, fun _ => inv_reach hn, fun _ h => h.ok hn⟩
theorem clo_reach {n : Nat} {R : Mv → Prop} (C : Clo n R) {L : List Mv} (h : ∀ m ∈ L, R m) {m : Mv} (r : Reach n L m) : R m := by
  induction r with
  | stay => exact C.st
  | step _ hx ih => exact C.th _ _ ih (h _ hx)
theorem reach_one {n : Nat} {L : List Mv} {m : Mv} (h : m ∈ L) (ok : m.ok n) : Reach n L m := by
  have := Reach.step (n := (n : Int)) .stay h
  rwa [stay_thn m ok] at this
theorem sh_lin {n : Nat} (hn : 0 < n) {L : List Mv} {x1 x2 y1 y2 : Nat} (hx : Reach n L ⟨.stay, x1, x2⟩) (hy : Reach n L ⟨.stay, y1, y2⟩) :
    ∀ i j : Nat, Reach n L ⟨.stay, ((i : Int) * x1 + (j : Int) * y1) % n, ((i : Int) * x2 + (j : Int) * y2) % n⟩ := by
  have s1 : ∀ a b x y : Int, thn n ⟨.stay, a % n, b % n⟩ ⟨.stay, x, y⟩ = ⟨.stay, (a + x) % n, (b + y) % n⟩ := fun a b x y => by
    show (⟨.stay, (a % n + x) % n, (b % n + y) % n⟩ : Mv) = _
    simp
  intro i j
  have h1 : Reach n L ⟨.stay, ((i : Int) * x1) % n, ((i : Int) * x2) % n⟩ := by
    induction i with
    | zero => rw [Int.natCast_zero, Int.zero_mul, Int.zero_mul, Int.zero_emod]; exact .stay
    | succ i ih =>
      have := reach_trans hn ih hx
      rw [s1] at this
      rw [Int.natCast_succ, Int.add_mul, Int.add_mul, Int.one_mul, Int.one_mul]
      exact this
  induction j with
  | zero => rw [Int.natCast_zero, Int.zero_mul, Int.zero_mul, Int.add_zero, Int.add_zero]; exact h1
  | succ j ih =>
    have := reach_trans hn ih hy
    rw [s1] at this
    rw [Int.natCast_succ, Int.add_mul, Int.add_mul, Int.one_mul, Int.one_mul, ← Int.add_assoc, ← Int.add_assoc]
    exact this
open Classical in
theorem two_of {n : Nat} (hn : 0 < n) (h3 : n ≤ 3) {R : Nat × Nat → Prop} (h0 : R (0, 0)) (ha : ∀ p ∈ ptsN n, ∀ q ∈ ptsN n, R p → R q → R (addN n p q)) :
    ∃ x ∈ ptsN n, R x ∧ ∃ y ∈ ptsN n, R y ∧ ∀ z ∈ ptsN n, R z → ∃ i j : Nat, z = ((i * x.1 + j * y.1) % n, (i * x.2 + j * y.2) % n) := by
  have key : ∀ b : List Bool, twoN n b → (∀ p ∈ ptsN n, pB n b p = true ↔ R p) → ∃ x ∈ ptsN n, R x ∧ ∃ y ∈ ptsN n, R y ∧ ∀ z ∈ ptsN n, R z → ∃ i j : Nat, z = ((i * x.1 + j * y.1) % n, (i * x.2 + j * y.2) % n) := fun b hb e => by
    have addin : ∀ p q : Nat × Nat, addN n p q ∈ ptsN n := fun p q => by
      unfold ptsN addN
      have a1 := Nat.mod_lt (p.1 + q.1) hn
      have a2 := Nat.mod_lt (p.2 + q.2) hn
      refine List.mem_map.mpr ⟨(p.1 + q.1) % n * n + (p.2 + q.2) % n, List.mem_range.mpr ?_, ?_⟩
      · have : ((p.1 + q.1) % n + 1) * n ≤ n * n := Nat.mul_le_mul_right _ (by omega)
        rw [Nat.add_mul] at this
        omega
      · rw [Nat.mul_comm, Nat.mul_add_div hn, Nat.div_eq_of_lt a2, Nat.add_zero, Nat.mul_add_mod, Nat.mod_eq_of_lt a2]
    obtain ⟨x, hx, kx, y, hy, ky, hz⟩ := hb fun p hp q hq u v => (e _ (addin p q)).mpr (ha p hp q hq ((e p hp).mp u) ((e q hq).mp v))
    refine ⟨x, hx, (e x hx).mp kx, y, hy, (e y hy).mp ky, fun z mz rz => ?_⟩
    obtain ⟨i, _, j, _, q⟩ := hz z mz ((e z mz).mpr rz)
    exact ⟨i, j, q⟩
  obtain rfl | rfl | rfl : n = 1 ∨ n = 2 ∨ n = 3 := by omega
  · refine key _ two_1 fun p hp => ?_
    have hp : p = (0, 0) := by revert hp; exact fun hp => (List.mem_singleton.mp (show p ∈ [((0 : Nat), (0 : Nat))] from hp))
    subst hp
    exact ⟨fun _ => h0, fun _ => rfl⟩
  · refine key _ (two_2 (decide (R (0, 1))) (decide (R (1, 0))) (decide (R (1, 1)))) fun p hp => ?_
    have hp : p ∈ [((0 : Nat), (0 : Nat)), (0, 1), (1, 0), (1, 1)] := hp
    simp only [List.mem_cons, List.not_mem_nil, or_false] at hp
    rcases hp with rfl | rfl | rfl | rfl
    · exact ⟨fun _ => h0, fun _ => rfl⟩
    all_goals exact decide_eq_true_iff
  · refine key _ (two_3 (decide (R (0, 1))) (decide (R (0, 2))) (decide (R (1, 0))) (decide (R (1, 1))) (decide (R (1, 2))) (decide (R (2, 0))) (decide (R (2, 1))) (decide (R (2, 2)))) fun p hp => ?_
    have hp : p ∈ [((0 : Nat), (0 : Nat)), (0, 1), (0, 2), (1, 0), (1, 1), (1, 2), (2, 0), (2, 1), (2, 2)] := hp
    simp only [List.mem_cons, List.not_mem_nil, or_false] at hp
    rcases hp with rfl | rfl | rfl | rfl | rfl | rfl | rfl | rfl | rfl
    · exact ⟨fun _ => h0, fun _ => rfl⟩
    all_goals exact decide_eq_true_iff
theorem mem_pts {n : Nat} {p : Nat × Nat} (hn : 0 < n) : p ∈ ptsN n ↔ p.1 < n ∧ p.2 < n := by
  unfold ptsN
  rw [List.mem_map]
  constructor
  · rintro ⟨k, hk, rfl⟩
    exact ⟨Nat.div_lt_of_lt_mul (List.mem_range.mp hk), Nat.mod_lt _ hn⟩
  · rintro ⟨h1, h2⟩
    refine ⟨p.1 * n + p.2, List.mem_range.mpr ?_, ?_⟩
    · have : (p.1 + 1) * n ≤ n * n := Nat.mul_le_mul_right _ (by omega)
      rw [Nat.add_mul] at this
      omega
    · rw [Nat.mul_comm, Nat.mul_add_div hn, Nat.div_eq_of_lt h2, Nat.add_zero, Nat.mul_add_mod, Nat.mod_eq_of_lt h2]
/-- the shoves of a closed set are made by two of them -/
theorem shoves_two {n : Nat} (hn : 0 < n) (h3 : n ≤ 3) {R : Mv → Prop} (C : Clo n R) : ∃ X Y : Mv, X.w = .stay ∧ Y.w = .stay ∧ R X ∧ R Y ∧ ∀ m, Reach n [X, Y] m ↔ R m ∧ m.w = .stay := by
  obtain ⟨x, hx, rx, y, hy, ry, hz⟩ := two_of (R := fun p => R ⟨.stay, (p.1 : Int), (p.2 : Int)⟩) hn h3 C.st fun p hp q hq u v => by
    have := C.th _ _ u v
    have e : thn n ⟨.stay, (p.1 : Int), (p.2 : Int)⟩ ⟨.stay, (q.1 : Int), (q.2 : Int)⟩ = ⟨.stay, (((p.1 + q.1) % n : Nat) : Int), (((p.2 + q.2) % n : Nat) : Int)⟩ := by
      show (⟨.stay, ((p.1 : Int) + q.1) % n, ((p.2 : Int) + q.2) % n⟩ : Mv) = _
      simp
    rw [e] at this
    exact this
  refine ⟨⟨.stay, x.1, x.2⟩, ⟨.stay, y.1, y.2⟩, rfl, rfl, rx, ry, fun m => ⟨fun r => ⟨clo_reach C (fun m hm => ?_) r, ?_⟩, fun ⟨rm, wm⟩ => ?_⟩⟩
  · simp only [List.mem_cons, List.not_mem_nil, or_false] at hm
    rcases hm with rfl | rfl
    · exact rx
    · exact ry
  · exact made_stays hn (L := [⟨.stay, x.1, x.2⟩, ⟨.stay, y.1, y.2⟩]) (fun m hm => by
      simp only [List.mem_cons, List.not_mem_nil, or_false] at hm
      rcases hm with rfl | rfl <;> rfl) m ((mem_madeL hn).mpr r)
  · obtain ⟨wm', d, r⟩ := m
    simp only at wm
    subst wm
    obtain ⟨o1, o2, o3, o4⟩ := C.ok _ rm
    simp only at o1 o2 o3 o4
    obtain ⟨a, rfl⟩ : ∃ a : Nat, d = a := ⟨d.toNat, by omega⟩
    obtain ⟨b, rfl⟩ : ∃ b : Nat, r = b := ⟨r.toNat, by omega⟩
    obtain ⟨i, j, e⟩ := hz (a, b) ((mem_pts hn).mpr ⟨by omega, by omega⟩) rm
    have k1 := (mem_pts hn).mp hx
    have k2 := (mem_pts hn).mp hy
    have := sh_lin hn (L := [⟨.stay, x.1, x.2⟩, ⟨.stay, y.1, y.2⟩]) (reach_one (by simp) (C.ok _ rx)) (reach_one (by simp) (C.ok _ ry)) i j
    injection e with e1 e2
    rw [e1, e2]
    push_cast
    exact this
theorem pick_ways {n : Nat} {R : Mv → Prop} : ∀ H : List Way, (∀ h ∈ H, ∃ m, R m ∧ m.w = h) → ∃ Xs : List Mv, Xs.map (·.w) = H ∧ ∀ m ∈ Xs, R m
  | [], _ => ⟨[], rfl, fun m hm => nomatch hm⟩
  | h :: H, hh => by
    obtain ⟨m, r, e⟩ := hh h List.mem_cons_self
    obtain ⟨Xs, e2, r2⟩ := pick_ways (n := n) H fun x hx => hh x (List.mem_cons_of_mem _ hx)
    refine ⟨m :: Xs, by rw [List.map_cons, e, e2], fun x hx => ?_⟩
    rcases List.mem_cons.mp hx with rfl | hx
    · exact r
    · exact r2 x hx
/-- each closed set is what one of all groups makes -/
theorem grp_of {n : Nat} (hn : 0 < n) (h3 : n ≤ 3) {G : List Grp} (hG : GroupsOk n G) {R : Mv → Prop} (C : Clo n R) : ∃ g ∈ G, ∀ m, Reach n g.1 m ↔ R m := by
  have hn' : (0 : Int) < n := by omega
  obtain ⟨X, Y, wX, wY, rX, rY, hS⟩ := shoves_two hn h3 C
  obtain ⟨H, hH, h1, h2⟩ := head_of (R := fun w => ∃ m, R m ∧ m.w = w) ⟨_, C.st, rfl⟩ fun a c ⟨m, rm, em⟩ ⟨k, rk, ek⟩ => ⟨_, C.th _ _ rm rk, by show mulW m.w k.w = _; rw [em, ek]⟩
  obtain ⟨Xs, e1, rXs⟩ := pick_ways (n := n) H h1
  obtain ⟨g, hg, few, a, eg, hfew, em, ew, hok, hal⟩ := hG.all X Y wX wY (C.ok _ rX) (C.ok _ rY) Xs (by rw [e1]; exact hH) fun m hm => C.ok _ (rXs m hm)
  have hF : ∀ m, Reach n few m ↔ R m ∧ m.w = .stay := fun m => (reach_iff hn em m).trans (hS m)
  have ra : ∀ m ∈ a, R m := fun m hm => by
    obtain ⟨i, hi⟩ := List.mem_iff_getElem?.mp hm
    have hl : a.length = Xs.length := by
      have := congrArg List.length ew
      simpa using this
    have hi2 : i < Xs.length := by rw [← hl]; exact (List.getElem?_eq_some_iff.mp hi).1
    obtain ⟨s, hs, e⟩ := hal i m Xs[i] hi (List.getElem?_eq_getElem hi2)
    have rs := ((hS s).mp ((mem_madeL hn).mp hs)).1
    have q := C.th _ _ (rXs Xs[i] (List.getElem_mem hi2)) (C.iv _ rs)
    rw [← e, thn_assoc, thn_inv hn' s, thn_stay m (hok m hm)] at q
    exact q
  refine ⟨g, hg, fun m => ⟨fun r => clo_reach C (fun x hx => ?_) r, fun rm => ?_⟩⟩
  · rw [eg] at hx
    rcases List.mem_append.mp hx with hx | hx
    · exact ((hF x).mp (reach_one hx (hfew x hx).2)).1
    · exact ra x hx
  · rw [eg]
    have up : ∀ {x}, Reach n few x → Reach n (few ++ a) x := fun r => reach_congr (fun _ h => List.mem_append_left _ h) r
    have hw : ∃ m', Reach n (few ++ a) m' ∧ m'.w = m.w := by
      refine cloN_ind (H := H) (R := fun w => ∃ m', Reach n (few ++ a) m' ∧ m'.w = w) ⟨_, .stay, rfl⟩ (fun w h ⟨m', r', e'⟩ hh => ?_) 4 m.w (h2 _ ⟨m, rm, rfl⟩)
      rw [← e1, ← ew] at hh
      obtain ⟨x, hx, ex⟩ := List.mem_map.mp hh
      exact ⟨_, .step r' (List.mem_append_right _ hx), by show mulW m'.w x.w = _; rw [e', ex]⟩
    obtain ⟨m', r', e'⟩ := hw
    have R' : R m' := clo_reach C (fun x hx => by
      rcases List.mem_append.mp hx with hx | hx
      · exact ((hF x).mp (reach_one hx (hfew x hx).2)).1
      · exact ra x hx) r'
    have q : Reach n few (thn n m (inv n m')) := (hF _).mpr ⟨C.th _ _ rm (C.iv _ R'), by show mulW m.w (invW m'.w) = _; rw [e']; exact (mulW_inv _).1⟩
    have z := reach_trans hn (up q) r'
    rw [thn_assoc, inv_thn hn' m' (C.ok _ R'), thn_stay m (C.ok _ rm)] at z
    exact z
/-! ### a group's bound -/
theorem shv_act {n : Nat} (hn : 0 < n) {L : List Mv} {p : Pl} (hp : p ∈ allP n) : (shvT n L).length ∣ (circP n L p).length := by
  classical
  have hn' : (0 : Int) < n := by omega
  have mT : ∀ m, m ∈ shvT n L ↔ Reach n L m ∧ m.w = .stay := fun m => by
    unfold shvT
    rw [List.mem_filter, mem_madeL hn, decide_eq_true_eq]
  have stl : ∀ {a b : Mv}, a.w = .stay → b.w = .stay → (thn n a b).w = .stay := fun {a b} h1 h2 => by show mulW a.w b.w = _; rw [h1, h2]; rfl
  refine cls_dvd (fun q q' => decide (q ∈ allP n ∧ ∃ t ∈ shvT n L, ledP n q t = q')) _ (fun a b h => ?_) (fun a b c h k => ?_) _ (circP n L p) (Nat.le_refl _) (fun c hc => ?_) fun c hc => ?_
  · obtain ⟨ha, t, ht, rfl⟩ := of_decide_eq_true h
    obtain ⟨r, w⟩ := (mT t).mp ht
    refine decide_eq_true ⟨ledP_in hn _ _, inv n t, (mT _).mpr ⟨inv_reach hn r, by show invW t.w = _; rw [w]; rfl⟩, ?_⟩
    rw [← ledP_thn, thn_inv hn' t, ledP_stay ha]
  · obtain ⟨ha, t, ht, rfl⟩ := of_decide_eq_true h
    obtain ⟨hb, u, hu, rfl⟩ := of_decide_eq_true k
    obtain ⟨r, w⟩ := (mT t).mp ht
    obtain ⟨r2, w2⟩ := (mT u).mp hu
    exact decide_eq_true ⟨ha, thn n t u, (mT _).mpr ⟨reach_trans hn r r2, stl w w2⟩, ledP_thn _ _ _ _⟩
  · have hc := mem_circP.mp hc
    exact decide_eq_true ⟨hc.1, stayM, (mT _).mpr ⟨.stay, rfl⟩, ledP_stay hc.1⟩
  · obtain ⟨c1, c2⟩ := mem_circP.mp hc
    have nd : (shvT n L).Nodup := (madeL_nodup n L).filter _
    have ndC : (circP n L p).Nodup := (allP_nodup n).filter _
    apply Nat.le_antisymm
    · rw [← List.length_map (f := fun t => ledP n c t) (as := shvT n L)]
      refine nodup_le (ndC.filter _) fun q hq => ?_
      obtain ⟨_, h2⟩ := List.mem_filter.mp hq
      obtain ⟨_, t, ht, e⟩ := of_decide_eq_true h2
      exact List.mem_map.mpr ⟨t, ht, e⟩
    · rw [← List.length_map (f := fun t => ledP n c t) (as := shvT n L)]
      refine nodup_le ?_ fun q hq => ?_
      · refine List.pairwise_map.mpr (List.Pairwise.imp_of_mem (fun {a b} ha hb hab e => hab ?_) nd)
        obtain ⟨r, w⟩ := (mT a).mp ha
        obtain ⟨r2, w2⟩ := (mT b).mp hb
        exact led_inj hn w w2 (r.ok hn) (r2.ok hn) e
      · obtain ⟨t, ht, rfl⟩ := List.mem_map.mp hq
        obtain ⟨r, w⟩ := (mT t).mp ht
        refine List.mem_filter.mpr ⟨mem_circP.mpr ⟨ledP_in hn _ _, ?_⟩, decide_eq_true ⟨c1, t, ht, rfl⟩⟩
        obtain ⟨m, rm, e⟩ := (rch_iff hp).mp c2
        exact (rch_iff hp).mpr ⟨thn n m t, reach_trans hn rm r, by rw [ledP_thn, e]⟩
theorem dvd_gcd_fold {d : Nat} : ∀ (xs : List Nat) (a : Nat), d ∣ a → (∀ x ∈ xs, d ∣ x) → d ∣ xs.foldl Nat.gcd a
  | [], a, ha, _ => ha
  | x :: xs, a, ha, h => dvd_gcd_fold xs _ (Nat.dvd_gcd ha (h x List.mem_cons_self)) fun y hy => h y (List.mem_cons_of_mem _ hy)
theorem gcd_fold_pos : ∀ (xs : List Nat) (a : Nat), (0 < a ∨ ∃ x ∈ xs, 0 < x) → 0 < xs.foldl Nat.gcd a
  | [], a, h => by
    rcases h with h | ⟨x, hx, _⟩
    · exact h
    · cases hx
  | x :: xs, a, h => by
    refine gcd_fold_pos xs _ ?_
    rcases h with h | ⟨y, hy, k⟩
    · exact .inl (Nat.gcd_pos_of_pos_left _ h)
    · rcases List.mem_cons.mp hy with rfl | hy
      · exact .inl (Nat.gcd_pos_of_pos_right _ k)
      · exact .inr ⟨y, hy, k⟩
theorem head_ways0 : ∀ k, k < 10 → headW[k]? = some (headW.getD k []) ∧ sizeW[k]? = some (sizeW.getD k 0) ∧ (ways.filter fun w => decide (w ∈ cloN (headW.getD k []) 4)).length ≤ sizeW.getD k 0 ∧ ∀ w ∈ ways, w ∈ cloN (headW.getD k []) 4 → ∀ h ∈ headW.getD k [], mulW w h ∈ cloN (headW.getD k []) 4 := by decide +kernel
theorem ways_all (w : Way) : w ∈ ways := by cases w <;> decide
theorem head_ways : ∀ k, k < 10 → ∃ H z, headW[k]? = some H ∧ sizeW[k]? = some z ∧ (ways.filter fun w => decide (w ∈ cloN H 4)).length ≤ z ∧ ∀ w ∈ cloN H 4, ∀ h ∈ H, mulW w h ∈ cloN H 4 := fun k hk => by
  obtain ⟨h1, h2, h3, h4⟩ := head_ways0 k hk
  exact ⟨_, _, h1, h2, h3, fun w hw => h4 w (ways_all w) hw⟩
theorem sz_bnd {n : Nat} (hn : 0 < n) {g : Grp} (h : GrpIs n g) : szM n g.1 ≤ bnd n g := by
  obtain ⟨few, a, k, e1, e2, e3, hl, hfew, hok⟩ := h
  have hk : k < 10 := (List.getElem?_eq_some_iff.mp e1).1
  obtain ⟨H, z, z1, z2, z3, z4⟩ := head_ways k hk
  rw [e1] at z1
  rw [e2] at z2
  cases z1
  cases z2
  have hw : ∀ m, Reach n g.1 m → m.w ∈ cloN (a.map (·.w)) 4 := fun m r => by
    induction r with
    | stay =>
      have : ∀ k, Way.stay ∈ cloN (a.map (·.w)) k := fun k => by
        induction k with
        | zero => exact List.mem_singleton.mpr rfl
        | succ k ih => exact List.mem_append_left _ ih
      exact this 4
    | @step m x _ hx ih =>
      rw [e3] at hx
      show mulW m.w x.w ∈ _
      rcases List.mem_append.mp hx with hx | hx
      · rw [(hfew x hx).1, (mulW_stay _).1]; exact ih
      · exact z4 _ ih _ (List.mem_map.mpr ⟨x, hx, rfl⟩)
  have s1 := sum_ways (madeL n g.1) (ways.filter fun w => decide (w ∈ cloN (a.map (·.w)) 4)) fun m hm => List.mem_filter.mpr ⟨ways_all _, decide_eq_true (hw m ((mem_madeL hn).mp hm))⟩
  have s2 : ∀ Vs : List Way, (Vs.map fun w => ((madeL n g.1).filter fun m => decide (m.w = w)).length).sum ≤ Vs.length * (shvT n g.1).length := fun Vs => by
    induction Vs with
    | nil => simp
    | cons w Vs ih =>
      rw [List.map_cons, List.sum_cons, List.length_cons, Nat.add_mul, Nat.one_mul]
      have := way_le hn g.1 w
      unfold shvT at ih ⊢
      omega
  have s3 : (shvT n g.1).length ≤ (lensL n g.1).foldl Nat.gcd 0 := by
    refine Nat.le_of_dvd ?_ ?_
    · refine gcd_fold_pos _ _ (.inr ?_)
      have ok : ∀ m ∈ g.1, m.ok n := (grp_few ⟨few, a, k, e1, e2, e3, hl, hfew, hok⟩).2.1
      have h0 : ((0, 0) : Pl) ∈ allP n := mem_allP.mpr ⟨Int.le_refl _, by show (0 : Int) < n; omega, Int.le_refl _, by show (0 : Int) < n; omega⟩
      have hr := root_mem hn ok h0
      refine ⟨(circP n g.1 (rootP n g.1 (0, 0))).length, List.mem_map.mpr ⟨_, hr, rfl⟩, ?_⟩
      exact List.length_pos_of_mem (mem_circP.mpr ⟨(mem_rootsL.mp hr).1, rchP_refl _⟩)
    · refine dvd_gcd_fold _ _ (Nat.dvd_zero _) fun x hx => ?_
      obtain ⟨p, hp, rfl⟩ := List.mem_map.mp hx
      exact shv_act hn (mem_rootsL.mp hp).1
  have s4 := s2 (ways.filter fun w => decide (w ∈ cloN (a.map (·.w)) 4))
  unfold bnd szM
  refine Nat.le_trans s1 (Nat.le_trans s4 (Nat.mul_le_mul z3 s3))
/-- no wish is better than the best -/
theorem best_wish {n : Nat} (hn : 0 < n) (h3 : n ≤ 3) {f : Cp} {most : Int} {G : List Grp} {few : List Mv} (hG : GroupsOk n G) (B : BestI n f most (· ∈ G) few) {W : List Mv} (h : (chg n W f : Int) ≤ most) : ¬ btr n f few (szM n W) W := by
  obtain ⟨g, hg, e⟩ := grp_of hn h3 hG (reach_clo hn W)
  have e1 : chg n g.1 f = chg n W f := chg_congr e f
  have e2 : szM n g.1 = szM n W := by unfold szM; rw [made_iff e]
  have hb := sz_bnd hn (hG.each g hg)
  have up : btr n f few (szM n W) W → btr n f few (bnd n g) g.1 ∧ btr n f few (szM n g.1) g.1 := fun q => by
    unfold btr at q ⊢
    rw [e1, e2]
    omega
  intro q
  rcases B.top g hg (by rw [e1]; exact h) with z | z
  · exact z (up q).1
  · exact z (up q).2
end VN

/-! WZB: all that leave a carpet, by few (k45) -/
namespace VN
open PySem VS PySem.W
/-! few of them -/
def Ind (n : Nat) (few : List Mv) : Prop := ∀ (k : Nat) (x : Mv), few[k]? = some x → x ∉ madeL n (few.take k)
theorem Ind.nil (n : Nat) : Ind n [] := fun k x e => by cases e
theorem Ind.snoc {n : Nat} {few : List Mv} {m : Mv} (h : Ind n few) (hm : m ∉ madeL n few) : Ind n (few ++ [m]) := fun k x e => by
  by_cases hk : k < few.length
  · rw [List.getElem?_append_left hk] at e
    rw [List.take_append_of_le_length (by omega)]
    exact h k x e
  · have hl := (List.getElem?_eq_some_iff.mp e).1
    rw [List.length_append, List.length_singleton] at hl
    have : k = few.length := by omega
    subst this
    rw [List.getElem?_append_right (Nat.le_refl _), Nat.sub_self] at e
    cases e
    rw [List.take_left]
    exact hm
theorem Ind.take {n : Nat} {few : List Mv} (h : Ind n few) (j : Nat) : Ind n (few.take j) := fun k x e => by
  have hk := (List.getElem?_eq_some_iff.mp e).1
  rw [List.length_take] at hk
  rw [List.getElem?_take_of_lt (by omega)] at e
  rw [List.take_take, Nat.min_eq_left (by omega)]
  exact h k x e
/-- the few of all that leave a carpet -/
structure FewOk (n : Nat) (f : Cp) (few : List Mv) : Prop where
  ok : ∀ m ∈ few, m.ok n
  ind : Ind n few
  nine : few.length ≤ 9
  all : madeL n few = lvL n f
  mem : ∀ m ∈ few, m ∈ lvL n f
end VN

/-! WZG: what leaves a mended carpet (k96) -/
namespace VN
open PySem VS PySem.W
end VN
namespace VS
end VS

/-! WZH: images of ways, the table of ways, sizes, prices (k94) -/
namespace VN
open PySem VS PySem.W
def imgP (Ws : List Way) : List Pl := [((1 : Int), (0 : Int)), (0, 1)].map fun p => Ws.foldl (fun q w => ledP 7 q ⟨w, 0, 0⟩) p
theorem img_dec : ∀ a ∈ ways, ∀ b ∈ ways, ∀ w ∈ ways, decide (imgP [a, b] = imgP [w]) = decide (mulW a b = w) := by decide +kernel
theorem led7 {w : Way} {q : Pl} : [D.int 7, D.tup [wD w, .int 0, .int 0], dP q] = [.int 7, dM ⟨w, 0, 0⟩, dPl q.1 q.2] := rfl
theorem img2 {a b : Way} : [D.lst [wD a, wD b]] = [.lst ([a, b].map wD)] := rfl
theorem img1 {a : Way} : [D.lst [wD a]] = [.lst ([a].map wD)] := rfl
theorem eq_img {a b w : Way} {Q : RV → Prop} (q : Q (.val (.bl (decide (mulW a b = w))))) : opEq (.lst ((imgP [a, b]).map dP)) (.lst ((imgP [w]).map dP)) Q := by
  refine ⟨okL_P, okL_P, ?_⟩
  have e : decide ((D.lst ((imgP [a, b]).map dP)).un = (D.lst ((imgP [w]).map dP)).un) = decide (mulW a b = w) := by
    rw [← img_dec a (ways_all a) b (ways_all b) w (ways_all w), Bool.eq_iff_iff, decide_eq_true_iff, decide_eq_true_iff]
    constructor
    · intro h
      have h : D.lst ((imgP [a, b]).map dP) = D.lst ((imgP [w]).map dP) := h
      exact map_inj dP_inj (D.lst.inj h)
    · intro h; rw [h]
  rw [e]; exact q
/-- what the table tells so far -/
def kAB (a b : Way) : D := .tup [wD a, wD b]
theorem kAB_inj {a b a' b' : Way} (h : kAB a b = kAB a' b') : a = a' ∧ b = b' := by
  have h := D.tup.inj h
  injection h with h1 h2
  injection h2 with h2 _
  exact ⟨Way.str_inj (D.str.inj h1), Way.str_inj (D.str.inj h2)⟩
def Tab (S : Way → Way → Prop) (kvs : List (D × D)) : Prop := ∀ a b, S a b → dget kvs (kAB a b) = some (wD (mulW a b))
theorem Tab.put {S : Way → Way → Prop} {kvs : List (D × D)} (h : Tab S kvs) (a b : Way) : Tab (fun x y => S x y ∨ (x = a ∧ y = b)) (dput kvs (kAB a b) (wD (mulW a b))) := fun x y hxy => by
  rw [dget_put]
  split
  · rename_i e
    obtain ⟨rfl, rfl⟩ := kAB_inj e
    rfl
  · rename_i e
    rcases hxy with hxy | ⟨rfl, rfl⟩
    · exact h x y hxy
    · exact absurd rfl e
theorem Tab.imp {S S' : Way → Way → Prop} {kvs : List (D × D)} (h : Tab S kvs) (k : ∀ a b, S' a b → S a b) : Tab S' kvs := fun a b q => h a b (k a b q)
theorem ways_at {i : Nat} {d : D} (h : [D.str "stay", .str "turn", .str "half", .str "back", .str "side", .str "flip", .str "cross", .str "other"][i]? = some d) : ∃ w, ways[i]? = some w ∧ d = wD w := by
  have h : (ways.map wD)[i]? = some d := h
  rw [List.getElem?_map] at h
  obtain ⟨w, h1, h2⟩ := Option.map_eq_some_iff.mp h
  exact ⟨w, h1, h2.symm⟩
theorem made_size {n : Nat} (hn : 0 < n) {L F : List Mv} (hd : F.Nodup) (hr : ∀ m ∈ F, Reach n L m) (hs : stayM ∈ F) (hc : ∀ m ∈ F, ∀ x ∈ L, thn n m x ∈ F) : F.length = szM n L := by
  have := congrArg List.length (sort_made hn hd hr hs hc)
  rw [(sortM_perm F).length_eq] at this
  exact this
/-! prices -/
noncomputable def prc (n : Nat) (L : List Mv) (f : Cp) (i : Nat) : Int := (((rootsL n L).take i).map fun p => ((circP n L p).length : Int) - modeM (colsL f (circP n L p)) (modC n L f p)).sum
theorem prc_snoc {n : Nat} {L : List Mv} {f : Cp} {i : Nat} {p : Pl} (h : (rootsL n L)[i]? = some p) : prc n L f (i + 1) = prc n L f i + (circP n L p).length - modeM (colsL f (circP n L p)) (modC n L f p) := by
  unfold prc
  rw [take_snoc h, List.map_append, List.sum_append, List.map_singleton, List.sum_singleton]
  omega
theorem sum_subI {α : Type} (f g : α → Int) : ∀ R : List α, (R.map fun r => f r - g r).sum = (R.map f).sum - (R.map g).sum
  | [] => rfl
  | r :: R => by
    rw [List.map_cons, List.map_cons, List.map_cons, List.sum_cons, List.sum_cons, List.sum_cons, sum_subI f g R]
    omega
theorem prc_all {n : Nat} (hn : 0 < n) {L : List Mv} (ok : ∀ m ∈ L, m.ok n) (f : Cp) : prc n L f (rootsL n L).length = chg n L f := by
  unfold prc
  rw [List.take_length, sum_subI]
  have h1 := circ_sum hn ok fun _ => true
  have h2 := men_sum hn ok f
  have h3 : ((rootsL n L).map fun p => ((circP n L p).length : Int)).sum = (n : Int) * n := by
    rw [sum_cast]
    have e : ((rootsL n L).map fun r => ((circP n L r).filter fun _ => true).length) = (rootsL n L).map fun p => (circP n L p).length := List.map_congr_left fun p _ => by
      rw [List.filter_eq_self.mpr fun _ _ => rfl]
    rw [e] at h1
    rw [h1, List.filter_eq_self.mpr fun _ _ => rfl, allP_len]
    push_cast; rfl
  have h4 : ((rootsL n L).map fun p => modeM (colsL f (circP n L p)) (modC n L f p)).sum = (n : Int) * n - ((diffL n (menF n L f) f).length : Int) := by
    rw [← h2]
    unfold SM
    rw [List.map_map]
    rfl
  rw [h3, h4]
  unfold chg
  omega
theorem best_same {n : Nat} (hn : 0 < n) (h3 : n ≤ 3) {f : Cp} {most : Int} {G G' : List Grp} {few few' : List Mv} (hG : GroupsOk n G) (hB : BestI n f most (· ∈ G) few) (hG' : GroupsOk n G') (hB' : BestI n f most (· ∈ G') few') : szM n few' = szM n few ∧ chg n few' f = chg n few f := by
  have h1 := best_wish hn h3 hG hB hB'.low
  have h2 := best_wish hn h3 hG' hB' hB.low
  unfold btr at h1 h2
  omega
theorem idx_ten2 {i : Int} {Q : RV → Prop} (h0 : 0 ≤ i) (h1 : i < 10) (q : ∀ n : Nat, 0 < n → n ≤ 3 → Q (.val (.int (n : Nat)))) : opIdx (.lst [.int 1, .int 2, .int 2, .int 2, .int 2, .int 2, .int 2, .int 2, .int 2, .int 3]) (.int i) Q := by
  obtain ⟨k, rfl⟩ : ∃ k : Nat, i = k := ⟨i.toNat, by omega⟩
  have : k = 0 ∨ k = 1 ∨ k = 2 ∨ k = 3 ∨ k = 4 ∨ k = 5 ∨ k = 6 ∨ k = 7 ∨ k = 8 ∨ k = 9 := by omega
  rcases this with rfl | rfl | rfl | rfl | rfl | rfl | rfl | rfl | rfl | rfl
  · exact ⟨_, rfl, q 1 (by omega) (by omega)⟩
  iterate 8 exact ⟨_, rfl, q 2 (by omega) (by omega)⟩
  · exact ⟨_, rfl, q 3 (by omega) (by omega)⟩
end VN

/-! VUD: a def that changes lists deep within its first argument, called last of all: return a or f(x, ..) -/
namespace VS
open PySem PySem.Spec L2
/-- all but the lists of A -/
def lessL (A H : Hp) : Hp := fun b => match A b with
  | some (.lst _) => none
  | _ => H b
theorem lessL_same (A H : Hp) : Same (lessL A H) H := fun b o e => by
  unfold lessL at e
  split at e
  · cases e
  · exact e
theorem lessL_of {A H : Hp} {b : Addr} {o : HO} (h : H b = some o) (ha : ∀ us, A b ≠ some (.lst us)) : lessL A H b = some o := by
  unfold lessL
  split
  · rename_i us e
    exact absurd e (ha us)
  · exact h
abbrev FSpP := D → List D → (Bool → Prop) → Prop
def spP (c : Cfg) (ms : List Bool) (F : FSpP) : Sp := fun vs H Q _ => ∃ (v : V) (vs' : List V) (A G : Hp) (d : D) (ds : List D) (P : Bool → Prop), vs = v :: vs' ∧ Rep c.K c.w A v d ∧ Same A H ∧ Same G H ∧ (∀ b us, A b = some (.lst us) → G b = none) ∧
  ArgsR c.K c.w G (lessL A H) ms vs' ds ∧ F d ds P ∧ ∀ b H', P b → Same (lessL A H) H' → Q (.bl b) H'
structure FnP (c : Cfg) (x : Str) (ms : List Bool) (F : FSpP) : Prop where
  ex : ∃ f fd ps, FnOk c.P c.w c.K c.mg c.base (L2.CX c.P c.w) c.k f fd ps (spP c ms F) ∧ c.mg x = some (.ref f) ∧ PySem.W.keepIn c.K (.ref f) = true ∧ Binds c.K fd ps []
def startP (ms : List Bool) (ds : List D) (n : Nat) : Env := .emp :: (argS ms ds ++ List.replicate (n - (ds.length + 1)) .emp)
def bodyP (P : Bool → Prop) : EndsD := { nx := fun _ => False, rt := fun rv _ => ∃ b, rv = .val (.bl b) ∧ P b, bk := fun _ => False, ct := fun _ => False, xq := noX }
section
variable {c : Cfg}
theorem startP_env {A G H : Hp} {ms : List Bool} {v : V} {vs : List V} {ds : List D} {N : List Str} (sg : Same G H) (dg : ∀ b us, A b = some (.lst us) → G b = none) (r : ArgsR c.K c.w G (lessL A H) ms vs ds) (hl : (v :: vs).length ≤ N.length) :
    RepEnv c G (lessL A H) H (L2.start N (v :: vs)) (startP ms ds N.length) := by
  obtain ⟨l1, l2, _⟩ := r.len
  rw [List.length_cons] at hl
  have all : ∀ {i : Nat} {u : Slot}, (startP ms ds N.length)[i]? = some u → u = .emp ∨ ∃ v' d, (L2.start N (v :: vs))[i]? = some (some v') ∧ ((u = .bor d ∧ RD c.K c.w (lessL A H) G v' d) ∨ (u = .val d ∧ Rep c.K c.w G v' d)) := fun {i u} e => by
    unfold startP at e
    cases i with
    | zero => exact .inl (Option.some.inj e).symm
    | succ i =>
      rw [List.getElem?_cons_succ] at e
      by_cases hi : i < (argS ms ds).length
      · rw [List.getElem?_append_left hi] at e
        obtain ⟨v', d, h1, h2⟩ := r.get e
        refine .inr ⟨v', d, ?_, h2⟩
        unfold L2.start
        rw [List.map_cons, List.cons_append, List.getElem?_cons_succ, List.getElem?_append_left (by simp; omega), List.getElem?_map, h1]
        rfl
      · rw [List.getElem?_append_right (by omega), List.getElem?_replicate] at e
        split at e
        · exact .inl (Option.some.inj e).symm
        · cases e
  refine ⟨sg, lessL_same A H, ?_, fun i d e => ?_, fun i d e => ?_, fun i d e => ?_, fun i j d d' a e => ?_⟩
  · unfold L2.start startP
    simp only [List.length_append, List.length_map, List.length_replicate, List.length_cons]
    omega
  · rcases all e with z | ⟨v, d', h1, ⟨z, _⟩ | ⟨z, h2⟩⟩
    · cases z
    · cases z
    · cases z
      exact ⟨v, h1, h2⟩
  · rcases all e with z | ⟨v, d', h1, ⟨z, _⟩ | ⟨z, h2⟩⟩
    · cases z
    · cases z
    · cases z
  · rcases all e with z | ⟨v, d', h1, ⟨z, h2⟩ | ⟨z, _⟩⟩
    · cases z
    · cases z
      exact ⟨v, h1, h2⟩
    · cases z
  · rcases all e with z | ⟨v, d', h1, ⟨z, h2⟩ | ⟨z, _⟩⟩
    · cases z
    · cases z
    · cases z
theorem startP_emp {ms : List Bool} {ds : List D} {n i : Nat} {d : D} (h : (startP ms ds n)[i]? = some (.own d)) : False := by
  have key : ∀ {ms : List Bool} {ds : List D} {j : Nat}, (argS ms ds)[j]? = some (.own d) → False := fun {ms} => by
    induction ms with
    | nil => intro ds j e; simp [argS] at e
    | cons m ms ih =>
      intro ds j e
      cases ds with
      | nil => cases m <;> simp [argS] at e
      | cons d' ds =>
        cases m <;> cases j with
        | zero => simp [argS] at e
        | succ j => exact ih (ds := ds) (j := j) (by simpa [argS] using e)
  unfold startP at h
  cases i with
  | zero => cases h
  | succ i =>
    rw [List.getElem?_cons_succ] at h
    by_cases hi : i < (argS ms ds).length
    · rw [List.getElem?_append_left hi] at h
      exact key h
    · rw [List.getElem?_append_right (by omega), List.getElem?_replicate] at h
      split at h <;> cases h
/-- THE RULE for such a def -/
theorem fn_okP {x qual : Str} {st : Stmt} {f : Addr} {fd : FuncData} {N ps : List Str} {k : Nat} {ms : List Bool} {F : FSpP} {u : EndsD → Env → D → Nat → Prop} (Fu : Fun c.K x qual st f fd) (S : FnScope N ps (defScope st)) (hl : ms.length + 1 = ps.length)
    (hb : VD2 (c.inn k N (defScope st)) 0 (defBody st) u) (hF : ∀ d ds P, ds.length = ms.length → F d ds P → u (bodyP P) (startP ms ds N.length) d 0) : FnOk c.P c.w c.K c.mg c.base (L2.CX c.P c.w) (k + 1) f fd ps (spP c ms F) := by
  refine Fu.okX S (fun vs H Q E h => ?_) (fun cdv A outer s H vs Q E hr h => ?_)
  · obtain ⟨v, vs', A, G, d, ds, P, rfl, _, _, _, _, r, _⟩ := h
    have := r.len
    rw [List.length_cons]
    omega
  · obtain ⟨v, vs', A', G, d, ds, P, rfl, ra, sa, sg, dg, r, q, fin⟩ := h
    obtain ⟨l1, l2, l3⟩ := r.len
    have hpl : ps.length ≤ N.length := by have := congrArg List.length S.pre; rw [List.length_take] at this; omega
    have E0 := startP_env (v := v) (N := N) sg dg r (by rw [List.length_cons]; omega)
    have E0' : RepEnv (c.inn k N (defScope st)) G (lessL A' H) H (L2.start N (v :: vs')) (startP ms ds N.length) := ⟨E0.gh, E0.bh, E0.len, E0.val, E0.own, E0.bor, E0.dis⟩
    refine ⟨TUss _ (defBody st), pss_tu, ?_⟩
    have g : Good (c.inn k N (defScope st)) (cxOf (L2.CX c.P c.w) c.P c.w c.K c.mg c.base N qual (defScope st) f cdv A outer s H E) := ⟨rfl, rfl, rfl, rfl, rfl, rfl, S.nd, rfl, rfl, L2H.roomH_of hr, (fun _ => ⟨rfl, hr.hd⟩), passes_of rfl, fun _ => ⟨rfl, rfl, rfl⟩⟩
    have tk : Takes (cxOf (L2.CX c.P c.w) c.P c.w c.K c.mg c.base N qual (defScope st) f cdv A outer s H E) (WXo (c.inn k N (defScope st)) G (lessL A' H) (L2.start N (v :: vs')) (startP ms ds N.length) (bodyP P).xq) :=
      (takes_of (E := E) rfl rfl rfl rfl).imp fun cls d σ' H' ⟨xd, env', G', q', _⟩ => q'.elim
    have D0 : DSt (c.inn k N (defScope st)) G (lessL A' H) A' H (L2.start N (v :: vs')) (startP ms ds N.length) 0 v d 0 := by
      refine ⟨E0', ra, fun b o eo => ?_, fun b us e => ⟨dg b us e, by unfold lessL; rw [e]⟩, fun j d' b e1 e2 => (startP_emp e1).elim, by unfold L2.start; rfl⟩
      have eq := sa b o eo
      cases o with
      | lst us => exact ⟨[], by rw [eq, List.append_nil], Nat.le_refl _⟩
      | _ => exact eq
    refine TUss.imp ?_ (hb.run _ g G (lessL A' H) A' H (L2.start N (v :: vs')) (startP ms ds N.length) v d 0 (bodyP P) D0 (hF d ds P (by omega) q) tk)
    refine ⟨fun σ' H' ⟨env', G', q', _⟩ => q'.elim, fun v H' ⟨rv, env', G', σ', ⟨b, e, p'⟩, E', x', b', r'⟩ => ?_, fun σ' H' ⟨env', G', q', _⟩ => q'.elim, fun σ' H' ⟨env', G', q', _⟩ => q'.elim⟩
    subst e
    cases (show Rep c.K c.w G' v (.bl b) from r')
    exact fin b H' p' E'.bh
theorem FnP.lvl {x : Str} {k : Nat} {f : Addr} {fd : FuncData} {ps : List Str} {j : Nat} {ms : List Bool} {F : FSpP} (h : FnOk c.P c.w c.K c.mg c.base (L2.CX c.P c.w) j f fd ps (spP c ms F)) (hm : c.mg x = some (.ref f)) (hk : PySem.W.keepIn c.K (.ref f) = true) (hb : Binds c.K fd ps []) (l : j ≤ k) :
    FnP (c.lv k) x ms F := ⟨⟨f, fd, ps, h.mono l, hm, hk, hb⟩⟩
theorem FnP.inn {x : Str} {k : Nat} {N : List Str} {sc : Scope} {ms : List Bool} {F : FSpP} (h : FnP (c.lv k) x ms F) : FnP (c.inn k N sc) x ms F := ⟨h.ex⟩
theorem ArgsR.vals {G H H' : Hp} : ∀ {ms : List Bool} {vs : List V} {ds : List D}, ms.all (! ·) = true → ArgsR c.K c.w G H ms vs ds → ArgsR c.K c.w G H' ms vs ds
  | _, _, _, _, .nil => .nil
  | _, _, _, h, .bor _ _ => by simp at h
  | _, _, _, h, .val q r => .val q (ArgsR.vals (by simpa using h) r)
/-- return a or f(x, ..), the last of all -/
def dRetOr (ms : List Bool) (F : FSpP) (t : ET) (ta : AT) : EndsD → Env → D → Nat → Prop := fun D env d k => k = 0 ∧ t env (fun r e => ∃ b, r = .val (.bl b) ∧ if b = true then D.rt (.val (.bl true)) e else
  ta e (fun rs e1 => ∃ ds e2, argsE ms e1 rs = some (ds, e2) ∧ F d ds fun b => D.rt (.val (.bl b)) e2) noX) noX
theorem vd2_retOr {i : Nat} {x fn : Str} {ms : List Bool} {F : FSpP} {a e : Expr} {es : List Expr} {t : ET} {ta : AT} {p p' cpos bpos pos : Pos} (hx : VisC c i x) (f : FnP c fn ms F) (hg : GlC c fn) (h1 : VE c a t) (ha : VA c (e :: es) ta) (hms : ms.all (! ·) = true := by rfl)
    (hdb : (fn == ("__debug__" : Str)) = false := by decide) (hn : (e :: es).all noStar = true := by rfl) (hc : c.calm = true := by rfl) :
    VD2 c i [.Return (some (.BoolOp .Or [a, .Call (.Name fn p) (.Name x p' :: e :: es) [] cpos] bpos)) pos] (dRetOr ms F t ta) := by
  constructor
  intro X g G B A H σ env v d k D S q tk
  obtain ⟨rfl, qt⟩ := q
  obtain ⟨fa, fd, ps, h, hm, hk, hb⟩ := f.ex
  have hn2 : noStar e = true ∧ es.all noStar = true := by
    rw [List.all_cons, Bool.and_eq_true] at hn
    exact hn
  rw [← g.prog, ← g.w, ← g.K, ← g.mg, ← g.base] at h
  obtain ⟨v1, v2, v3, v4⟩ := hx
  refine TUss.of (pss_one (ps_ret (pe_or (pe_tu (e := a)) (pe_one (pe_callS (E := WE (WXo c G B σ env D.xq)) (sp := spP c ms F) h (g.room hc) (hg.gl g) (by rw [g.mg]; exact hm) (by rw [g.K]; exact hk) (by rw [g.K]; exact hb) (fun σ' => passAt tk σ')
    (pa_cons (pe_var (i := i) (x := x) (by rw [g.N]; exact v1) (by rw [g.scope]; exact v2) v3 v4) (pa_tu (es := e :: es)) (star_cons rfl)) hdb (star_cons rfl) (by rw [star_cons hn2.1]; exact noStars hn2.2)))))) ?_
  refine (h1.run X g G (prot A H B) H σ env _ noX S.lend qt (noTakes tk)).imp fun y H1 ⟨rv, e1, G1, ⟨b, er, qb⟩, E1, x1, k1, r1⟩ => ?_
  subst er
  cases (show Rep c.K c.w G1 y (.bl b) from r1)
  refine ⟨b, rfl, ?_⟩
  obtain ⟨S1, y1⟩ := S.backB E1 x1 (k1.bors σ) S.vi
  cases b with
  | true =>
    rw [if_pos rfl] at qb ⊢
    exact ⟨_, e1, G1, σ, qb, S1.E, y1, k1.bors σ, .bl _⟩
  | false =>
    rw [if_neg (by decide)] at qb ⊢
    refine ⟨v, S1.vi, ?_⟩
    refine (ha.run X g G1 (prot A H1 B) H1 σ e1 _ noX S1.lend qb (noTakes tk)).imp fun vs H2 ⟨rs, e2, G2, ⟨ds, e3, q1, qF⟩, E2, x2, k2, r2⟩ => ?_
    obtain ⟨G3, x3, E3, r3, k3⟩ := E2.args r2 q1
    obtain ⟨S3, y3⟩ := S1.backB E3 (x2.trans x3) ((k2.trans k3).bors σ) S1.vi
    have aH : Same A H2 := fun b o eo => by
      have hp := S3.pre b o eo
      cases o with
      | lst us =>
        obtain ⟨ws, w1, w2⟩ := hp
        have : ws = [] := List.length_eq_zero_iff.mp (Nat.le_zero.mp w2)
        rw [w1, this, List.append_nil]
      | _ => exact hp
    refine ⟨v, vs, A, G3, d, ds, _, rfl, S3.a, aH, S3.E.gh, fun b us eb => (S3.dg b us eb).1, ArgsR.vals hms r3, qF, fun b H' pb sH => ?_⟩
    have keep : ∀ {F : Hp}, Same F H2 → (∀ b us, A b = some (.lst us) → F b = none) → Same F H' := fun {F} s n b o eb => sH b o (lessL_of (s b o eb) fun us ea => by
      rw [n b us ea] at eb; cases eb)
    have EH : RepEnv c G3 B H' σ e3 := by
      refine ⟨keep S3.E.gh fun b us eb => (S3.dg b us eb).1, keep S3.E.bh fun b us eb => (S3.dg b us eb).2, S3.E.len, S3.E.val, fun j d' ej => ?_, S3.E.bor, S3.E.dis⟩
      obtain ⟨b, o, m1, m2, m3, m4, m5⟩ := S3.E.own j d' ej
      refine ⟨b, o, m1, m2, m3, sH b o (lessL_of m4 fun us ea => ?_), m5⟩
      rw [S3.dow j d' b ej m1] at ea
      cases ea
    exact ⟨_, e3, G3, σ, pb, EH, y1.trans y3, (k1.trans (k2.trans k3)).bors σ, .bl _⟩
end
end VS


namespace My_carpetkin_k94_whole_bettered
open PySem PySem.Spec L2 VS VN
theorem isO_opIdx {x0 x1 x2} (h : VS.opIdx x0 x1 x2) : VS.opIdx x0 x1 x2 := h
theorem isO_opEq {x0 x1 x2} (h : VS.opEq x0 x1 x2) : VS.opEq x0 x1 x2 := h
theorem isO_opIn {x0 x1 x2 x3} (h : VS.opIn x0 x1 x2 x3) : VS.opIn x0 x1 x2 x3 := h
theorem isO_opNe {x0 x1 x2} (h : VS.opNe x0 x1 x2) : VS.opNe x0 x1 x2 := h
theorem isO_opJoin {x0 x1 x2} (h : VS.opJoin x0 x1 x2) : VS.opJoin x0 x1 x2 := h
theorem isO_opAdd {x0 x1 x2} (h : VS.opAdd x0 x1 x2) : VS.opAdd x0 x1 x2 := h
theorem isO_opSorted {x0 x1} (h : VS.opSorted x0 x1) : VS.opSorted x0 x1 := h
theorem isO_opLen {x0 x1} (h : VS.opLen x0 x1) : VS.opLen x0 x1 := h
theorem isO_opMul {x0 x1 x2} (h : VS.opMul x0 x1 x2) : VS.opMul x0 x1 x2 := h
local macro_rules | `(tactic| decreasing_trivial_pre_omega) => `(tactic| ((repeat (first | with_reducible apply Exists.intro | (((with_reducible apply And.intro); (focus (first | with_reducible exact VN.led7 | with_reducible exact VN.img2 | with_reducible exact VN.img1 | exact VN.nkT_deep _ | exact VN.nk_tup _ | ((with_reducible apply VS.set_i); (first | (dsimp only [VS.lend_nil, VS.lend_cons, VS.lendS_own, VS.lendS_val, VS.lendS_bor, VS.lendS_emp, VS.back_nil, VS.back_cons, VS.backS_bor, VS.backS_own, VS.backS_emp, VS.backS_int, VS.backS_str, VS.backS_bl, VS.backS_non, VS.backS_tup, VS.backS_lst, VS.unl, VS.lockE, VS.wipeE, VS.asgN, VS.fz, VS.fzs, VS.argsE, VS.rd, List.set_cons_zero, List.set_cons_succ, List.getElem?_cons_zero, List.getElem?_cons_succ]; done) | (dsimp only [VS.lend_nil, VS.lend_cons, VS.lendS_own, VS.lendS_val, VS.lendS_bor, VS.lendS_emp, VS.back_nil, VS.back_cons, VS.backS_bor, VS.backS_own, VS.backS_emp, VS.backS_int, VS.backS_str, VS.backS_bl, VS.backS_non, VS.backS_tup, VS.backS_lst, VS.unl, VS.lockE, VS.wipeE, VS.asgN, VS.fz, VS.fzs, VS.argsE, VS.rd, List.set_cons_zero, List.set_cons_succ, List.getElem?_cons_zero, List.getElem?_cons_succ]; rfl) | rfl)) | ((with_reducible apply VS.back_i); (first | (dsimp only [VS.lend_nil, VS.lend_cons, VS.lendS_own, VS.lendS_val, VS.lendS_bor, VS.lendS_emp, VS.back_nil, VS.back_cons, VS.backS_bor, VS.backS_own, VS.backS_emp, VS.backS_int, VS.backS_str, VS.backS_bl, VS.backS_non, VS.backS_tup, VS.backS_lst, VS.unl, VS.lockE, VS.wipeE, VS.asgN, VS.fz, VS.fzs, VS.argsE, VS.rd, List.set_cons_zero, List.set_cons_succ, List.getElem?_cons_zero, List.getElem?_cons_succ]; done) | (dsimp only [VS.lend_nil, VS.lend_cons, VS.lendS_own, VS.lendS_val, VS.lendS_bor, VS.lendS_emp, VS.back_nil, VS.back_cons, VS.backS_bor, VS.backS_own, VS.backS_emp, VS.backS_int, VS.backS_str, VS.backS_bl, VS.backS_non, VS.backS_tup, VS.backS_lst, VS.unl, VS.lockE, VS.wipeE, VS.asgN, VS.fz, VS.fzs, VS.argsE, VS.rd, List.set_cons_zero, List.set_cons_succ, List.getElem?_cons_zero, List.getElem?_cons_succ]; rfl) | rfl)) | ((with_reducible apply VS.asg_i); (first | (dsimp only [VS.lend_nil, VS.lend_cons, VS.lendS_own, VS.lendS_val, VS.lendS_bor, VS.lendS_emp, VS.back_nil, VS.back_cons, VS.backS_bor, VS.backS_own, VS.backS_emp, VS.backS_int, VS.backS_str, VS.backS_bl, VS.backS_non, VS.backS_tup, VS.backS_lst, VS.unl, VS.lockE, VS.wipeE, VS.asgN, VS.fz, VS.fzs, VS.argsE, VS.rd, List.set_cons_zero, List.set_cons_succ, List.getElem?_cons_zero, List.getElem?_cons_succ]; done) | (dsimp only [VS.lend_nil, VS.lend_cons, VS.lendS_own, VS.lendS_val, VS.lendS_bor, VS.lendS_emp, VS.back_nil, VS.back_cons, VS.backS_bor, VS.backS_own, VS.backS_emp, VS.backS_int, VS.backS_str, VS.backS_bl, VS.backS_non, VS.backS_tup, VS.backS_lst, VS.unl, VS.lockE, VS.wipeE, VS.asgN, VS.fz, VS.fzs, VS.argsE, VS.rd, List.set_cons_zero, List.set_cons_succ, List.getElem?_cons_zero, List.getElem?_cons_succ]; rfl) | rfl)) | ((with_reducible apply VS.fz_i); (first | (dsimp only [VS.lend_nil, VS.lend_cons, VS.lendS_own, VS.lendS_val, VS.lendS_bor, VS.lendS_emp, VS.back_nil, VS.back_cons, VS.backS_bor, VS.backS_own, VS.backS_emp, VS.backS_int, VS.backS_str, VS.backS_bl, VS.backS_non, VS.backS_tup, VS.backS_lst, VS.unl, VS.lockE, VS.wipeE, VS.asgN, VS.fz, VS.fzs, VS.argsE, VS.rd, List.set_cons_zero, List.set_cons_succ, List.getElem?_cons_zero, List.getElem?_cons_succ]; done) | (dsimp only [VS.lend_nil, VS.lend_cons, VS.lendS_own, VS.lendS_val, VS.lendS_bor, VS.lendS_emp, VS.back_nil, VS.back_cons, VS.backS_bor, VS.backS_own, VS.backS_emp, VS.backS_int, VS.backS_str, VS.backS_bl, VS.backS_non, VS.backS_tup, VS.backS_lst, VS.unl, VS.lockE, VS.wipeE, VS.asgN, VS.fz, VS.fzs, VS.argsE, VS.rd, List.set_cons_zero, List.set_cons_succ, List.getElem?_cons_zero, List.getElem?_cons_succ]; rfl) | rfl)) | ((with_reducible apply VS.fzs_i); (first | (dsimp only [VS.lend_nil, VS.lend_cons, VS.lendS_own, VS.lendS_val, VS.lendS_bor, VS.lendS_emp, VS.back_nil, VS.back_cons, VS.backS_bor, VS.backS_own, VS.backS_emp, VS.backS_int, VS.backS_str, VS.backS_bl, VS.backS_non, VS.backS_tup, VS.backS_lst, VS.unl, VS.lockE, VS.wipeE, VS.asgN, VS.fz, VS.fzs, VS.argsE, VS.rd, List.set_cons_zero, List.set_cons_succ, List.getElem?_cons_zero, List.getElem?_cons_succ]; done) | (dsimp only [VS.lend_nil, VS.lend_cons, VS.lendS_own, VS.lendS_val, VS.lendS_bor, VS.lendS_emp, VS.back_nil, VS.back_cons, VS.backS_bor, VS.backS_own, VS.backS_emp, VS.backS_int, VS.backS_str, VS.backS_bl, VS.backS_non, VS.backS_tup, VS.backS_lst, VS.unl, VS.lockE, VS.wipeE, VS.asgN, VS.fz, VS.fzs, VS.argsE, VS.rd, List.set_cons_zero, List.set_cons_succ, List.getElem?_cons_zero, List.getElem?_cons_succ]; rfl) | rfl)) | ((with_reducible apply VS.args_i); (first | (dsimp only [VS.lend_nil, VS.lend_cons, VS.lendS_own, VS.lendS_val, VS.lendS_bor, VS.lendS_emp, VS.back_nil, VS.back_cons, VS.backS_bor, VS.backS_own, VS.backS_emp, VS.backS_int, VS.backS_str, VS.backS_bl, VS.backS_non, VS.backS_tup, VS.backS_lst, VS.unl, VS.lockE, VS.wipeE, VS.asgN, VS.fz, VS.fzs, VS.argsE, VS.rd, List.set_cons_zero, List.set_cons_succ, List.getElem?_cons_zero, List.getElem?_cons_succ]; done) | (dsimp only [VS.lend_nil, VS.lend_cons, VS.lendS_own, VS.lendS_val, VS.lendS_bor, VS.lendS_emp, VS.back_nil, VS.back_cons, VS.backS_bor, VS.backS_own, VS.backS_emp, VS.backS_int, VS.backS_str, VS.backS_bl, VS.backS_non, VS.backS_tup, VS.backS_lst, VS.unl, VS.lockE, VS.wipeE, VS.asgN, VS.fz, VS.fzs, VS.argsE, VS.rd, List.set_cons_zero, List.set_cons_succ, List.getElem?_cons_zero, List.getElem?_cons_succ]; rfl) | rfl)) | with_reducible exact VN.two_rot | with_reducible exact VN.two_nil | with_reducible exact VN.two_rev | with_reducible exact VN.two_snoc | with_reducible exact VN.mv_two | with_reducible exact VN.mv_one | with_reducible exact VN.cm_one | with_reducible exact VN.cm_stay | with_reducible exact VN.three_P | with_reducible exact VN.three_rev | ((with_reducible apply VS.okd_i); (repeat (first | exact VN.okL_dLP | exact VN.okL_rowD (by assumption) | exact VN.okL_sgn (by assumption) | exact VN.ok_papD (by assumption) | exact VN.okL_wD | exact VN.okL_W | exact VN.ok_opt | exact VN.ok_w | exact VS.ok_int | exact VS.okL_nil | refine VS.okL_cons ?_ ?_ | exact VN.ok_M | exact VN.okL_M | exact VN.okL_Mr | exact VN.okL_P | exact VN.okL_pair (by assumption) | exact VN.ok_rc (by assumption) | exact VN.ok_cp (by assumption) | exact VN.ok_cp (VN.okC_mov (by assumption)) | exact VN.ok_cp (VN.okC_mov (VN.okC_mov (by assumption))) | refine VS.ok_tup ?_ | refine VS.ok_lst ?_ | exact VS.ok_non | assumption | exact VS.ok_str (by decide +kernel) | exact VS.ok_str (by assumption))); done) | ((with_reducible apply VS.okl_i); (repeat (first | exact VN.okL_dLP | exact VN.okL_rowD (by assumption) | exact VN.okL_sgn (by assumption) | exact VN.ok_papD (by assumption) | exact VN.okL_wD | exact VN.okL_W | exact VN.ok_opt | exact VN.ok_w | exact VS.ok_int | exact VS.okL_nil | refine VS.okL_cons ?_ ?_ | exact VN.ok_M | exact VN.okL_M | exact VN.okL_Mr | exact VN.okL_P | exact VN.okL_pair (by assumption) | exact VN.ok_rc (by assumption) | exact VN.ok_cp (by assumption) | exact VN.ok_cp (VN.okC_mov (by assumption)) | exact VN.ok_cp (VN.okC_mov (VN.okC_mov (by assumption))) | refine VS.ok_tup ?_ | refine VS.ok_lst ?_ | exact VS.ok_non | assumption | exact VS.ok_str (by decide +kernel) | exact VS.ok_str (by assumption))); done) | with_reducible exact VN.sg_mul _ _ | with_reducible exact VN.sg_inv _ | with_reducible assumption | exact VN.sg_get | exact VN.goes_get | rfl | ((with_reducible apply VN.ok_i); first | assumption | exact VN.inv_ok (by assumption) _ | exact VN.thn_ok (by assumption) _ _ | exact VN.nMv_ok (by assumption) | exact VN.mvA_ok (by assumption) _ | exact VN.stayM_ok (by assumption)) | ((with_reducible apply VN.okC_i); first | assumption | exact VN.okC_mov (by assumption) | exact VN.okC_mov (VN.okC_mov (by assumption)) | exact VN.okC_mov (VN.okC_mov (VN.okC_mov (by assumption)))) | exact True.intro | omega | decide | exact VS.mul_r (by decide) (by decide) | exact VS.mul_l (by decide) (by decide) | exact VS.len_le rfl | exact VS.len_lt rfl | exact VS.pow_k (by decide) (by decide) (by decide) | exact VN.mul_sA | exact VN.mul_sB | exact VN.mul_sC | exact VN.mul_sD | decide +kernel)))) | (first | ((with_reducible refine VS.ite_it ?_ ?_); (first | omega | exact VS.int_un (by omega) | exact VS.int_un (by simp only [List.length_cons, List.length_nil]; omega) | with_reducible rfl | ((show (VS.D.int _).un = (VS.D.int _).un); rfl) | decide +kernel | assumption)) | ((with_reducible refine VS.ite_if ?_ ?_); (first | omega | exact VN.nn_tup | exact VN.nn_lst | exact VN.nn_int | exact VN.nn_str | exact VN.cp_non | exact VS.int_nun (by omega) | exact VS.int_nun (by simp only [List.length_cons, List.length_nil]; omega) | decide +kernel | assumption)) | ((with_reducible refine VS.ite_jt ?_ ?_); (first | omega | exact VN.nn_tup | exact VN.nn_lst | exact VN.nn_int | exact VN.nn_str | exact VN.cp_non | exact VS.int_nun (by omega) | exact VS.int_nun (by simp only [List.length_cons, List.length_nil]; omega) | decide +kernel | assumption)) | ((with_reducible refine VS.ite_jf ?_ ?_); (first | omega | exact VS.int_un (by omega) | exact VS.int_un (by simp only [List.length_cons, List.length_nil]; omega) | with_reducible rfl | ((show (VS.D.int _).un = (VS.D.int _).un); rfl) | decide +kernel | assumption)) | ((with_reducible refine VS.ite_td ?_ ?_); (first | omega | exact VS.int_un (by omega) | exact VS.int_un (by simp only [List.length_cons, List.length_nil]; omega) | with_reducible rfl | ((show (VS.D.int _).un = (VS.D.int _).un); rfl) | decide +kernel | assumption)) | ((with_reducible refine VS.ite_fd ?_ ?_); (first | omega | exact VN.nn_tup | exact VN.nn_lst | exact VN.nn_int | exact VN.nn_str | exact VN.cp_non | exact VS.int_nun (by omega) | exact VS.int_nun (by simp only [List.length_cons, List.length_nil]; omega) | decide +kernel | assumption)) | ((with_reducible refine VS.ite_tn ?_ ?_); (first | omega | exact VN.nn_tup | exact VN.nn_lst | exact VN.nn_int | exact VN.nn_str | exact VN.cp_non | exact VS.int_nun (by omega) | exact VS.int_nun (by simp only [List.length_cons, List.length_nil]; omega) | decide +kernel | assumption)) | ((with_reducible refine VS.ite_fn ?_ ?_); (first | omega | exact VS.int_un (by omega) | exact VS.int_un (by simp only [List.length_cons, List.length_nil]; omega) | with_reducible rfl | ((show (VS.D.int _).un = (VS.D.int _).un); rfl) | decide +kernel | assumption))) | ((fail_if_success (first | with_reducible refine VS.ite_d ?_ ?_ | with_reducible refine VS.ite_n ?_ ?_ | with_reducible refine VS.ite_i ?_ ?_ | with_reducible refine VS.ite_ni ?_ ?_)); (first | (first | ((with_reducible refine isO_opIdx ?_); first | with_reducible refine VN.idx_ten2 (by first | omega | exact Int.emod_nonneg _ (by omega)) (by first | omega | exact Int.lt_of_lt_of_le (Int.emod_lt_of_pos _ (by omega)) (by omega)) ?_ | with_reducible refine VN.idx_b2 ?_ | with_reducible refine VN.idx_let2 (by assumption) (by first | omega | exact Int.emod_nonneg _ (by omega)) (by first | omega | exact Int.emod_lt_of_pos _ (by omega)) ?_ | with_reducible refine VN.idx_ten ?_ | with_reducible refine VN.idx_hyp (by assumption) ?_ | with_reducible refine VN.idx_34 ?_ | with_reducible refine VN.idx_abcde ?_ | with_reducible refine VN.idx_five ?_ | with_reducible refine VN.idx_rc (by first | omega | exact Int.emod_nonneg _ (by omega)) (by first | omega | exact Int.emod_lt_of_pos _ (by omega)) ?_ | with_reducible refine VN.idx_mvB (by omega) ?_ | with_reducible refine VN.idx_abcD (by first | omega | exact Int.emod_nonneg _ (by omega)) (by first | omega | exact Int.lt_of_lt_of_le (Int.emod_lt_of_pos _ (by omega)) (by omega)) ?_ | with_reducible refine VN.idx_ls (by assumption) (by first | omega | exact Int.emod_nonneg _ (by omega)) (by first | omega | exact Int.emod_lt_of_pos _ (by omega)) ?_ | with_reducible refine VN.idx_ints (by first | omega | exact Int.emod_nonneg _ (by omega)) (by first | omega | exact Int.emod_lt_of_pos _ (by omega)) ?_ | with_reducible refine VN.idx_let (by assumption) (by first | omega | exact Int.emod_nonneg _ (by omega)) (by first | omega | exact Int.emod_lt_of_pos _ (by omega)) ?_ | with_reducible refine VN.idx_disp ?_ | with_reducible refine VN.idx_abc (by first | omega | exact Int.emod_nonneg _ (by omega)) (by first | omega | exact Int.lt_of_lt_of_le (Int.emod_lt_of_pos _ (by omega)) (by omega)) ?_ | with_reducible refine VN.idx_cp (by first | omega | exact Int.emod_nonneg _ (by omega)) (by first | omega | exact Int.lt_of_lt_of_le (Int.emod_lt_of_pos _ (by omega)) (by omega)) ?_ | with_reducible refine VN.idx_row (by first | omega | exact Int.emod_nonneg _ (by omega)) (by first | omega | exact Int.lt_of_lt_of_le (Int.emod_lt_of_pos _ (by omega)) (by omega)) (by omega) ?_) | ((with_reducible refine isO_opEq ?_); first | with_reducible refine VN.eq_img ?_ | with_reducible refine VN.eq_kind ?_) | ((with_reducible refine isO_opIn ?_); first | with_reducible refine VN.in_wL ?_ | with_reducible refine VN.in_kvM3 ?_ | with_reducible refine VN.in_listM3 ?_ | with_reducible refine VN.in_stand ?_ | with_reducible refine VN.in_ways ?_ | with_reducible refine VN.in_waysT ?_ | with_reducible refine VN.in_waysH ?_ | with_reducible refine VN.in_listM ?_ | with_reducible refine VN.in_kvP ?_ | with_reducible refine VN.in_listP ?_ | with_reducible refine VN.in_kvM ?_) | ((with_reducible refine isO_opNe ?_); first | with_reducible refine VN.ne_kind ?_ | with_reducible refine VN.ne_optS ?_ | with_reducible refine VN.ne_stayM (by assumption) ?_ | with_reducible refine VN.ne_cp (by assumption) (by assumption) (by assumption) ?_ | with_reducible refine VN.ne_cc (by assumption) (by assumption) ?_ | with_reducible refine VN.ne_rc (by assumption) (by assumption) ?_) | ((with_reducible refine isO_opJoin ?_); first | with_reducible refine VN.join_by (by assumption) ?_ | with_reducible refine VN.opJoin_row (by omega) ?_) | with_reducible refine VN.ni_stand ?_ | with_reducible refine VN.find_ten (by assumption) ?_ | with_reducible refine VN.sl_M ?_ | with_reducible refine VN.notinX_lat (by assumption) ?_ | ((with_reducible refine isO_opAdd ?_); first | with_reducible refine VN.add_fewA (by assumption) (by assumption) ?_ | with_reducible refine VN.opAdd_cp (by omega) ?_ | with_reducible refine VN.opAdd_upd (by omega) ?_) | with_reducible refine VN.get_had (by assumption) ?_ | ((with_reducible refine isO_opSorted ?_); first | with_reducible refine VN.sorted_circ ?_ | with_reducible refine VN.sorted_best (by assumption) (by assumption) (by assumption) (by assumption) ?_ | with_reducible refine VN.sorted_kvP ?_ | with_reducible refine VN.sorted_P ?_ | with_reducible refine VN.sorted_kvM ?_ | with_reducible refine VN.sorted_M ?_) | with_reducible refine VN.min_best (by assumption) (by assumption) (by assumption) (by assumption) ?_ | ((with_reducible refine isO_opLen ?_); first | with_reducible refine VN.len_str (by omega) ?_ | with_reducible refine VN.len_rc ?_ | with_reducible refine VN.len_ls (by assumption) ?_ | with_reducible refine VN.len_ints ?_ | with_reducible refine VN.len_cp ?_ | with_reducible refine VN.len_row (by omega) ?_) | with_reducible refine VN.divmod_k (by omega) (by omega) ?_ | with_reducible refine VN.min2_any (by omega) (by omega) ?_ | with_reducible refine VS.ite_f (VN.nbs _) ?_ | with_reducible refine VS.opDiv_k (by first | decide | omega) (by first | decide | omega) ?_ | ((with_reducible refine isO_opMul ?_); first | with_reducible refine VS.opMul_r (by first | decide | omega) (by first | decide | omega) ?_ | with_reducible refine VS.opMul_l (by first | decide | omega) (by first | decide | omega) ?_) | with_reducible refine VS.opMod_k (by first | decide | omega) ?_ | with_reducible refine VN.way_index ?_ | refine VS.ite_t rfl ?_ | refine VS.ite_f rfl ?_) | apply Exists.intro | (((apply And.intro); (focus (first | with_reducible exact VN.led7 | with_reducible exact VN.img2 | with_reducible exact VN.img1 | exact VN.nkT_deep _ | exact VN.nk_tup _ | ((with_reducible apply VS.set_i); (first | (dsimp only [VS.lend_nil, VS.lend_cons, VS.lendS_own, VS.lendS_val, VS.lendS_bor, VS.lendS_emp, VS.back_nil, VS.back_cons, VS.backS_bor, VS.backS_own, VS.backS_emp, VS.backS_int, VS.backS_str, VS.backS_bl, VS.backS_non, VS.backS_tup, VS.backS_lst, VS.unl, VS.lockE, VS.wipeE, VS.asgN, VS.fz, VS.fzs, VS.argsE, VS.rd, List.set_cons_zero, List.set_cons_succ, List.getElem?_cons_zero, List.getElem?_cons_succ]; done) | (dsimp only [VS.lend_nil, VS.lend_cons, VS.lendS_own, VS.lendS_val, VS.lendS_bor, VS.lendS_emp, VS.back_nil, VS.back_cons, VS.backS_bor, VS.backS_own, VS.backS_emp, VS.backS_int, VS.backS_str, VS.backS_bl, VS.backS_non, VS.backS_tup, VS.backS_lst, VS.unl, VS.lockE, VS.wipeE, VS.asgN, VS.fz, VS.fzs, VS.argsE, VS.rd, List.set_cons_zero, List.set_cons_succ, List.getElem?_cons_zero, List.getElem?_cons_succ]; rfl) | rfl)) | ((with_reducible apply VS.back_i); (first | (dsimp only [VS.lend_nil, VS.lend_cons, VS.lendS_own, VS.lendS_val, VS.lendS_bor, VS.lendS_emp, VS.back_nil, VS.back_cons, VS.backS_bor, VS.backS_own, VS.backS_emp, VS.backS_int, VS.backS_str, VS.backS_bl, VS.backS_non, VS.backS_tup, VS.backS_lst, VS.unl, VS.lockE, VS.wipeE, VS.asgN, VS.fz, VS.fzs, VS.argsE, VS.rd, List.set_cons_zero, List.set_cons_succ, List.getElem?_cons_zero, List.getElem?_cons_succ]; done) | (dsimp only [VS.lend_nil, VS.lend_cons, VS.lendS_own, VS.lendS_val, VS.lendS_bor, VS.lendS_emp, VS.back_nil, VS.back_cons, VS.backS_bor, VS.backS_own, VS.backS_emp, VS.backS_int, VS.backS_str, VS.backS_bl, VS.backS_non, VS.backS_tup, VS.backS_lst, VS.unl, VS.lockE, VS.wipeE, VS.asgN, VS.fz, VS.fzs, VS.argsE, VS.rd, List.set_cons_zero, List.set_cons_succ, List.getElem?_cons_zero, List.getElem?_cons_succ]; rfl) | rfl)) | ((with_reducible apply VS.asg_i); (first | (dsimp only [VS.lend_nil, VS.lend_cons, VS.lendS_own, VS.lendS_val, VS.lendS_bor, VS.lendS_emp, VS.back_nil, VS.back_cons, VS.backS_bor, VS.backS_own, VS.backS_emp, VS.backS_int, VS.backS_str, VS.backS_bl, VS.backS_non, VS.backS_tup, VS.backS_lst, VS.unl, VS.lockE, VS.wipeE, VS.asgN, VS.fz, VS.fzs, VS.argsE, VS.rd, List.set_cons_zero, List.set_cons_succ, List.getElem?_cons_zero, List.getElem?_cons_succ]; done) | (dsimp only [VS.lend_nil, VS.lend_cons, VS.lendS_own, VS.lendS_val, VS.lendS_bor, VS.lendS_emp, VS.back_nil, VS.back_cons, VS.backS_bor, VS.backS_own, VS.backS_emp, VS.backS_int, VS.backS_str, VS.backS_bl, VS.backS_non, VS.backS_tup, VS.backS_lst, VS.unl, VS.lockE, VS.wipeE, VS.asgN, VS.fz, VS.fzs, VS.argsE, VS.rd, List.set_cons_zero, List.set_cons_succ, List.getElem?_cons_zero, List.getElem?_cons_succ]; rfl) | rfl)) | ((with_reducible apply VS.fz_i); (first | (dsimp only [VS.lend_nil, VS.lend_cons, VS.lendS_own, VS.lendS_val, VS.lendS_bor, VS.lendS_emp, VS.back_nil, VS.back_cons, VS.backS_bor, VS.backS_own, VS.backS_emp, VS.backS_int, VS.backS_str, VS.backS_bl, VS.backS_non, VS.backS_tup, VS.backS_lst, VS.unl, VS.lockE, VS.wipeE, VS.asgN, VS.fz, VS.fzs, VS.argsE, VS.rd, List.set_cons_zero, List.set_cons_succ, List.getElem?_cons_zero, List.getElem?_cons_succ]; done) | (dsimp only [VS.lend_nil, VS.lend_cons, VS.lendS_own, VS.lendS_val, VS.lendS_bor, VS.lendS_emp, VS.back_nil, VS.back_cons, VS.backS_bor, VS.backS_own, VS.backS_emp, VS.backS_int, VS.backS_str, VS.backS_bl, VS.backS_non, VS.backS_tup, VS.backS_lst, VS.unl, VS.lockE, VS.wipeE, VS.asgN, VS.fz, VS.fzs, VS.argsE, VS.rd, List.set_cons_zero, List.set_cons_succ, List.getElem?_cons_zero, List.getElem?_cons_succ]; rfl) | rfl)) | ((with_reducible apply VS.fzs_i); (first | (dsimp only [VS.lend_nil, VS.lend_cons, VS.lendS_own, VS.lendS_val, VS.lendS_bor, VS.lendS_emp, VS.back_nil, VS.back_cons, VS.backS_bor, VS.backS_own, VS.backS_emp, VS.backS_int, VS.backS_str, VS.backS_bl, VS.backS_non, VS.backS_tup, VS.backS_lst, VS.unl, VS.lockE, VS.wipeE, VS.asgN, VS.fz, VS.fzs, VS.argsE, VS.rd, List.set_cons_zero, List.set_cons_succ, List.getElem?_cons_zero, List.getElem?_cons_succ]; done) | (dsimp only [VS.lend_nil, VS.lend_cons, VS.lendS_own, VS.lendS_val, VS.lendS_bor, VS.lendS_emp, VS.back_nil, VS.back_cons, VS.backS_bor, VS.backS_own, VS.backS_emp, VS.backS_int, VS.backS_str, VS.backS_bl, VS.backS_non, VS.backS_tup, VS.backS_lst, VS.unl, VS.lockE, VS.wipeE, VS.asgN, VS.fz, VS.fzs, VS.argsE, VS.rd, List.set_cons_zero, List.set_cons_succ, List.getElem?_cons_zero, List.getElem?_cons_succ]; rfl) | rfl)) | ((with_reducible apply VS.args_i); (first | (dsimp only [VS.lend_nil, VS.lend_cons, VS.lendS_own, VS.lendS_val, VS.lendS_bor, VS.lendS_emp, VS.back_nil, VS.back_cons, VS.backS_bor, VS.backS_own, VS.backS_emp, VS.backS_int, VS.backS_str, VS.backS_bl, VS.backS_non, VS.backS_tup, VS.backS_lst, VS.unl, VS.lockE, VS.wipeE, VS.asgN, VS.fz, VS.fzs, VS.argsE, VS.rd, List.set_cons_zero, List.set_cons_succ, List.getElem?_cons_zero, List.getElem?_cons_succ]; done) | (dsimp only [VS.lend_nil, VS.lend_cons, VS.lendS_own, VS.lendS_val, VS.lendS_bor, VS.lendS_emp, VS.back_nil, VS.back_cons, VS.backS_bor, VS.backS_own, VS.backS_emp, VS.backS_int, VS.backS_str, VS.backS_bl, VS.backS_non, VS.backS_tup, VS.backS_lst, VS.unl, VS.lockE, VS.wipeE, VS.asgN, VS.fz, VS.fzs, VS.argsE, VS.rd, List.set_cons_zero, List.set_cons_succ, List.getElem?_cons_zero, List.getElem?_cons_succ]; rfl) | rfl)) | with_reducible exact VN.two_rot | with_reducible exact VN.two_nil | with_reducible exact VN.two_rev | with_reducible exact VN.two_snoc | with_reducible exact VN.mv_two | with_reducible exact VN.mv_one | with_reducible exact VN.cm_one | with_reducible exact VN.cm_stay | with_reducible exact VN.three_P | with_reducible exact VN.three_rev | ((with_reducible apply VS.okd_i); (repeat (first | exact VN.okL_dLP | exact VN.okL_rowD (by assumption) | exact VN.okL_sgn (by assumption) | exact VN.ok_papD (by assumption) | exact VN.okL_wD | exact VN.okL_W | exact VN.ok_opt | exact VN.ok_w | exact VS.ok_int | exact VS.okL_nil | refine VS.okL_cons ?_ ?_ | exact VN.ok_M | exact VN.okL_M | exact VN.okL_Mr | exact VN.okL_P | exact VN.okL_pair (by assumption) | exact VN.ok_rc (by assumption) | exact VN.ok_cp (by assumption) | exact VN.ok_cp (VN.okC_mov (by assumption)) | exact VN.ok_cp (VN.okC_mov (VN.okC_mov (by assumption))) | refine VS.ok_tup ?_ | refine VS.ok_lst ?_ | exact VS.ok_non | assumption | exact VS.ok_str (by decide +kernel) | exact VS.ok_str (by assumption))); done) | ((with_reducible apply VS.okl_i); (repeat (first | exact VN.okL_dLP | exact VN.okL_rowD (by assumption) | exact VN.okL_sgn (by assumption) | exact VN.ok_papD (by assumption) | exact VN.okL_wD | exact VN.okL_W | exact VN.ok_opt | exact VN.ok_w | exact VS.ok_int | exact VS.okL_nil | refine VS.okL_cons ?_ ?_ | exact VN.ok_M | exact VN.okL_M | exact VN.okL_Mr | exact VN.okL_P | exact VN.okL_pair (by assumption) | exact VN.ok_rc (by assumption) | exact VN.ok_cp (by assumption) | exact VN.ok_cp (VN.okC_mov (by assumption)) | exact VN.ok_cp (VN.okC_mov (VN.okC_mov (by assumption))) | refine VS.ok_tup ?_ | refine VS.ok_lst ?_ | exact VS.ok_non | assumption | exact VS.ok_str (by decide +kernel) | exact VS.ok_str (by assumption))); done) | with_reducible exact VN.sg_mul _ _ | with_reducible exact VN.sg_inv _ | with_reducible assumption | exact VN.sg_get | exact VN.goes_get | rfl | ((with_reducible apply VN.ok_i); first | assumption | exact VN.inv_ok (by assumption) _ | exact VN.thn_ok (by assumption) _ _ | exact VN.nMv_ok (by assumption) | exact VN.mvA_ok (by assumption) _ | exact VN.stayM_ok (by assumption)) | ((with_reducible apply VN.okC_i); first | assumption | exact VN.okC_mov (by assumption) | exact VN.okC_mov (VN.okC_mov (by assumption)) | exact VN.okC_mov (VN.okC_mov (VN.okC_mov (by assumption)))) | exact True.intro | omega | decide | exact VS.mul_r (by decide) (by decide) | exact VS.mul_l (by decide) (by decide) | exact VS.len_le rfl | exact VS.len_lt rfl | exact VS.pow_k (by decide) (by decide) (by decide) | exact VN.mul_sA | exact VN.mul_sB | exact VN.mul_sC | exact VN.mul_sD | decide +kernel))))))))))
def top (i : Nat) : Stmt := PySem.Challenge.pw_carpetkin_k94_whole_bettered.main.body.getD i (.Pass ⟨0, 0, 0, 0⟩)
def K_WAYS : D := .ktup [(.str "stay"), (.str "turn"), (.str "half"), (.str "back"), (.str "side"), (.str "flip"), (.str "cross"), (.str "other")]
def K_SIGNS : D := .kdic [(.str "stay", .ktup [(.int 1), (.int 0), (.int 0), (.int 1)]), (.str "turn", .ktup [(.int 0), (.int 1), (.int (-1)), (.int 0)]), (.str "half", .ktup [(.int (-1)), (.int 0), (.int 0), (.int (-1))]), (.str "back", .ktup [(.int 0), (.int (-1)), (.int 1), (.int 0)]), (.str "side", .ktup [(.int 1), (.int 0), (.int 0), (.int (-1))]), (.str "flip", .ktup [(.int (-1)), (.int 0), (.int 0), (.int 1)]), (.str "cross", .ktup [(.int 0), (.int 1), (.int 1), (.int 0)]), (.str "other", .ktup [(.int 0), (.int (-1)), (.int (-1)), (.int 0)])]
def K_LARGEST : D := .int 3
def K_HEADS : D := .ktup [.ktup [], .ktup [(.str "half")], .ktup [(.str "side")], .ktup [(.str "flip")], .ktup [(.str "cross")], .ktup [(.str "other")], .ktup [(.str "turn")], .ktup [(.str "half"), (.str "side")], .ktup [(.str "half"), (.str "cross")], .ktup [(.str "turn"), (.str "side")]]
def K_HEAD_SIZES : D := .ktup [(.int 1), (.int 2), (.int 2), (.int 2), (.int 2), (.int 2), (.int 4), (.int 4), (.int 4), (.int 8)]
abbrev si_TooLarge : Stmt := clsBody (top 12) 0
theorem scI_TooLarge : FnScope ["self", "many"] ["self", "many"] (defScope si_TooLarge) := ⟨rfl, rfl, rfl, by decide +kernel, rfl, by decide +kernel, by decide +kernel⟩
theorem init_TooLarge {c : Cfg} {k : Nat} {C fI B : Addr} {fd : FuncData} (Fu : Fun c.K "__init__" "TooLarge.__init__" si_TooLarge fI fd) (T : OexC c.K C) (hno : PySem.W.findIn c.K (.ref C) "many" = some none) (h : BAt c "CarpetError" B) : FnOk c.P c.w c.K c.mg c.base (L2.CX c.P c.w) (k + 1) fI fd ["self", "many"] (spI C "many") :=
  init_ok (m := "too many") Fu scI_TooLarge T hno (fun X g => pss_cons (ps_expr (pe_binit g h.inn (GlC.gl g (glI (by decide +kernel))) (by decide) (pa_cons (pe_vis g (visI (by decide +kernel))) (pa_cons pe_str pa_nil)))) (pss_one (ps_ost (pe_vis g (visI (by decide +kernel))) (pe_vis g (visI (by decide +kernel))))))
abbrev M_turned_place : List Bool := [false, false]
abbrev s_turned_place : Stmt := top 3
abbrev N_turned_place : List Str := ["way", "place", "a", "b", "c", "d"]
theorem sc_turned_place : FnScope N_turned_place ["way", "place"] (defScope s_turned_place) := ⟨rfl, rfl, rfl, by decide +kernel, rfl, by decide +kernel, by decide +kernel⟩
abbrev M_led : List Bool := [false, false, false]
abbrev s_led : Stmt := top 4
abbrev N_led : List Str := ["n", "movement", "place", "r", "c"]
theorem sc_led : FnScope N_led ["n", "movement", "place"] (defScope s_led) := ⟨rfl, rfl, rfl, by decide +kernel, rfl, by decide +kernel, by decide +kernel⟩
abbrev M_way_of : List Bool := [false]
abbrev s_way_of : Stmt := top 5
abbrev N_way_of : List Str := ["signs", "way"]
theorem sc_way_of : FnScope N_way_of ["signs"] (defScope s_way_of) := ⟨rfl, rfl, rfl, by decide +kernel, rfl, by decide +kernel, by decide +kernel⟩
abbrev M_then : List Bool := [false, false, false]
abbrev s_then : Stmt := top 6
abbrev N_then : List Str := ["n", "one", "other", "a", "b", "c", "d", "e", "f", "g", "h", "way", "down", "right"]
theorem sc_then : FnScope N_then ["n", "one", "other"] (defScope s_then) := ⟨rfl, rfl, rfl, by decide +kernel, rfl, by decide +kernel, by decide +kernel⟩
abbrev M_circle_from : List Bool := [false, true, false]
abbrev s_circle_from : Stmt := top 8
abbrev N_circle_from : List Str := ["n", "movements", "place", "found", "waiting", "here", "movement", "there"]
theorem sc_circle_from : FnScope N_circle_from ["n", "movements", "place"] (defScope s_circle_from) := ⟨rfl, rfl, rfl, by decide +kernel, rfl, by decide +kernel, by decide +kernel⟩
abbrev M_circles : List Bool := [false, true]
abbrev s_circles : Stmt := top 9
abbrev N_circles : List Str := ["n", "movements", "seen", "found", "r", "c", "circle", "place"]
theorem sc_circles : FnScope N_circles ["n", "movements"] (defScope s_circles) := ⟨rfl, rfl, rfl, by decide +kernel, rfl, by decide +kernel, by decide +kernel⟩
abbrev M_made : List Bool := [false, true]
abbrev s_made : Stmt := top 14
abbrev N_made : List Str := ["n", "movements", "first", "found", "waiting", "one", "other", "more"]
theorem sc_made : FnScope N_made ["n", "movements"] (defScope s_made) := ⟨rfl, rfl, rfl, by decide +kernel, rfl, by decide +kernel, by decide +kernel⟩
abbrev M_most_had : List Bool := [false, false]
abbrev s_most_had : Stmt := top 16
abbrev N_most_had : List Str := ["carpet", "places", "had", "r", "c", "many", "colour"]
theorem sc_most_had : FnScope N_most_had ["carpet", "places"] (defScope s_most_had) := ⟨rfl, rfl, rfl, by decide +kernel, rfl, by decide +kernel, by decide +kernel⟩
abbrev M_with_colours : List Bool := [false, false]
abbrev s_with_colours : Stmt := top 17
abbrev N_with_colours : List Str := ["side", "paper", "knots", "places", "colour", "many", "place", "r", "c"]
theorem sc_with_colours : FnScope N_with_colours ["side", "paper"] (defScope s_with_colours) := ⟨rfl, rfl, rfl, by decide +kernel, rfl, by decide +kernel, by decide +kernel⟩
abbrev M_by_paper : List Bool := [false, false]
abbrev s_by_paper : Stmt := top 18
abbrev N_by_paper : List Str := ["carpet", "paper", "side", "found", "changed", "r", "c"]
theorem sc_by_paper : FnScope N_by_paper ["carpet", "paper"] (defScope s_by_paper) := ⟨rfl, rfl, rfl, by decide +kernel, rfl, by decide +kernel, by decide +kernel⟩
abbrev M_mended : List Bool := [false, true]
abbrev s_mended : Stmt := top 19
abbrev N_mended : List Str := ["carpet", "wish", "paper", "places", "many", "colours"]
theorem sc_mended : FnScope N_mended ["carpet", "wish"] (defScope s_mended) := ⟨rfl, rfl, rfl, by decide +kernel, rfl, by decide +kernel, by decide +kernel⟩
abbrev M_lattices : List Bool := [false]
abbrev s_lattices : Stmt := top 24
abbrev N_lattices : List Str := ["side", "shoves", "seen", "found", "one", "other", "few", "key", "place", "shove"]
theorem sc_lattices : FnScope N_lattices ["side"] (defScope s_lattices) := ⟨rfl, rfl, rfl, by decide +kernel, rfl, by decide +kernel, by decide +kernel⟩
abbrev M_lifts : List Bool := [false, false, false]
abbrev s_lifts : Stmt := top 25
abbrev N_lifts : List Str := ["side", "head", "shoves", "found", "starts", "seen", "down", "right", "way", "more", "beside", "longer", "ahead"]
theorem sc_lifts : FnScope N_lifts ["side", "head", "shoves"] (defScope s_lifts) := ⟨rfl, rfl, rfl, by decide +kernel, rfl, by decide +kernel, by decide +kernel⟩
abbrev M_divisor : List Bool := [false]
abbrev s_divisor : Stmt := top 26
abbrev N_divisor : List Str := ["numbers", "found", "number", "one"]
theorem sc_divisor : FnScope N_divisor ["numbers"] (defScope s_divisor) := ⟨rfl, rfl, rfl, by decide +kernel, rfl, by decide +kernel, by decide +kernel⟩
abbrev M_all_groups : List Bool := [false]
abbrev s_all_groups : Stmt := top 27
abbrev N_all_groups : List Str := ["side", "found", "few", "shoves", "place", "head", "ahead"]
theorem sc_all_groups : FnScope N_all_groups ["side"] (defScope s_all_groups) := ⟨rfl, rfl, rfl, by decide +kernel, rfl, by decide +kernel, by decide +kernel⟩
abbrev M_bettered : List Bool := [false, false]
abbrev s_bettered : Stmt := top 28
abbrev N_bettered : List Str := ["carpet", "most", "side", "best", "few", "ways", "places", "changed", "bound", "size", "some"]
theorem sc_bettered : FnScope N_bettered ["carpet", "most"] (defScope s_bettered) := ⟨rfl, rfl, rfl, by decide +kernel, rfl, by decide +kernel, by decide +kernel⟩
abbrev M_L_cell_at : List Bool := [true, false]
abbrev s_L_cell_at : Stmt := top 30
abbrev N_L_cell_at : List Str := ["_law_script", "_law_k"]
theorem sc_L_cell_at : FnScope N_L_cell_at ["_law_script", "_law_k"] (defScope s_L_cell_at) := ⟨rfl, rfl, rfl, by decide +kernel, rfl, by decide +kernel, by decide +kernel⟩
abbrev M_L_whole : List Bool := [false]
abbrev s_L_whole : Stmt := top 31
abbrev N_L_whole : List Str := ["_law_found"]
theorem sc_L_whole : FnScope N_L_whole ["_law_found"] (defScope s_L_whole) := ⟨rfl, rfl, rfl, by decide +kernel, rfl, by decide +kernel, by decide +kernel⟩
abbrev M_L_mixed : List Bool := [false, false]
abbrev s_L_mixed : Stmt := top 32
abbrev N_L_mixed : List Str := ["_law_cell", "_law_k"]
theorem sc_L_mixed : FnScope N_L_mixed ["_law_cell", "_law_k"] (defScope s_L_mixed) := ⟨rfl, rfl, rfl, by decide +kernel, rfl, by decide +kernel, by decide +kernel⟩
abbrev M_L_led : List Bool := [false, false, false]
abbrev s_L_led : Stmt := top 33
abbrev N_L_led : List Str := ["_law_n", "_law_movement_here", "_law_place", "_law_r", "_law_c", "_law_way", "_law_south", "_law_east"]
theorem sc_L_led : FnScope N_L_led ["_law_n", "_law_movement_here", "_law_place"] (defScope s_L_led) := ⟨rfl, rfl, rfl, by decide +kernel, rfl, by decide +kernel, by decide +kernel⟩
abbrev M_L_moved : List Bool := [false, false]
abbrev s_L_moved : Stmt := top 34
abbrev N_L_moved : List Str := ["_law_carpet_here", "_law_movement_here", "_law_n", "_law_knots", "_law_r", "_law_c"]
theorem sc_L_moved : FnScope N_L_moved ["_law_carpet_here", "_law_movement_here"] (defScope s_L_moved) := ⟨rfl, rfl, rfl, by decide +kernel, rfl, by decide +kernel, by decide +kernel⟩
abbrev M_L_all : List Bool := [false]
abbrev s_L_all : Stmt := top 35
abbrev N_L_all : List Str := ["_law_n", "_law_found", "_law_way", "_law_south", "_law_east"]
theorem sc_L_all : FnScope N_L_all ["_law_n"] (defScope s_L_all) := ⟨rfl, rfl, rfl, by decide +kernel, rfl, by decide +kernel, by decide +kernel⟩
abbrev M_L_movement : List Bool := [false, false]
abbrev s_L_movement : Stmt := top 36
abbrev N_L_movement : List Str := ["_law_n", "_law_cell"]
theorem sc_L_movement : FnScope N_L_movement ["_law_n", "_law_cell"] (defScope s_L_movement) := ⟨rfl, rfl, rfl, by decide +kernel, rfl, by decide +kernel, by decide +kernel⟩
abbrev M_L_is_movement : List Bool := [false, false]
abbrev s_L_is_movement : Stmt := top 37
abbrev N_L_is_movement : List Str := ["_law_n", "_law_found"]
theorem sc_L_is_movement : FnScope N_L_is_movement ["_law_n", "_law_found"] (defScope s_L_is_movement) := ⟨rfl, rfl, rfl, by decide +kernel, rfl, by decide +kernel, by decide +kernel⟩
abbrev M_L_letters : List Bool := [false, false]
abbrev s_L_letters : Stmt := top 38
abbrev N_L_letters : List Str := ["_law_seed", "_law_many", "_law_letters_here", "_law_k"]
theorem sc_L_letters : FnScope N_L_letters ["_law_seed", "_law_many"] (defScope s_L_letters) := ⟨rfl, rfl, rfl, by decide +kernel, rfl, by decide +kernel, by decide +kernel⟩
abbrev M_L_carpet : List Bool := [true, false, true, false]
abbrev s_L_carpet : Stmt := top 39
abbrev N_L_carpet : List Str := ["_law_cells", "_law_n", "_law_letters_here", "_law_seed", "_law_rows", "_law_r", "_law_row", "_law_c", "_law_at"]
theorem sc_L_carpet : FnScope N_L_carpet ["_law_cells", "_law_n", "_law_letters_here", "_law_seed"] (defScope s_L_carpet) := ⟨rfl, rfl, rfl, by decide +kernel, rfl, by decide +kernel, by decide +kernel⟩
abbrev M_L_circles : List Bool := [false, false]
abbrev s_L_circles : Stmt := top 40
abbrev N_L_circles : List Str := ["_law_n", "_law_wish", "_law_met", "_law_found", "_law_k", "_law_first", "_law_spots", "_law_at", "_law_movement_here", "_law_goal"]
theorem sc_L_circles : FnScope N_L_circles ["_law_n", "_law_wish"] (defScope s_L_circles) := ⟨rfl, rfl, rfl, by decide +kernel, rfl, by decide +kernel, by decide +kernel⟩
abbrev M_L_had : List Bool := [false, false]
abbrev s_L_had : Stmt := top 41
abbrev N_L_had : List Str := ["_law_carpet_here", "_law_spots", "_law_had_here", "_law_r", "_law_c"]
theorem sc_L_had : FnScope N_L_had ["_law_carpet_here", "_law_spots"] (defScope s_L_had) := ⟨rfl, rfl, rfl, by decide +kernel, rfl, by decide +kernel, by decide +kernel⟩
abbrev M_L_image : List Bool := [false]
abbrev s_L_image : Stmt := top 42
abbrev N_L_image : List Str := ["_law_ways", "_law_found", "_law_spot", "_law_way"]
theorem sc_L_image : FnScope N_L_image ["_law_ways"] (defScope s_L_image) := ⟨rfl, rfl, rfl, by decide +kernel, rfl, by decide +kernel, by decide +kernel⟩
abbrev M_L_table : List Bool := []
abbrev s_L_table : Stmt := top 43
abbrev N_L_table : List Str := ["_law_ways", "_law_table_here", "_law_one", "_law_other", "_law_way"]
theorem sc_L_table : FnScope N_L_table [] (defScope s_L_table) := ⟨rfl, rfl, rfl, by decide +kernel, rfl, by decide +kernel, by decide +kernel⟩
abbrev M_L_size : List Bool := [false, true, true]
abbrev s_L_size : Stmt := top 44
abbrev N_L_size : List Str := ["_law_n", "_law_wish", "_law_table_here", "_law_met", "_law_ahead", "_law_one", "_law_other", "_law_south", "_law_east", "_law_more"]
theorem sc_L_size : FnScope N_L_size ["_law_n", "_law_wish", "_law_table_here"] (defScope s_L_size) := ⟨rfl, rfl, rfl, by decide +kernel, rfl, by decide +kernel, by decide +kernel⟩
abbrev M_L_price : List Bool := [false, false]
abbrev s_L_price : Stmt := top 45
abbrev N_L_price : List Str := ["_law_carpet_here", "_law_wish", "_law_found", "_law_spots"]
theorem sc_L_price : FnScope N_L_price ["_law_carpet_here", "_law_wish"] (defScope s_L_price) := ⟨rfl, rfl, rfl, by decide +kernel, rfl, by decide +kernel, by decide +kernel⟩
abbrev M_L_told_well : List Bool := [true, true, false, true]
abbrev s_L_told_well : Stmt := top 46
abbrev N_L_told_well : List Str := ["_law_found", "_law_carpet_here", "_law_most", "_law_table_here", "_law_n", "_law_now", "_law_spots", "_law_one", "_law_k"]
theorem sc_L_told_well : FnScope N_L_told_well ["_law_found", "_law_carpet_here", "_law_most", "_law_table_here"] (defScope s_L_told_well) := ⟨rfl, rfl, rfl, by decide +kernel, rfl, by decide +kernel, by decide +kernel⟩
abbrev M_L_again : List Bool := [false, false, false]
abbrev s_L_again : Stmt := top 47
abbrev N_L_again : List Str := ["_law_found", "_law_carpet_here", "_law_most", "_law_table_here", "_law_size_here", "_law_price_here", "_law_again_here"]
theorem sc_L_again : FnScope N_L_again ["_law_found", "_law_carpet_here", "_law_most", "_law_table_here"] (defScope s_L_again) := ⟨rfl, rfl, rfl, by decide +kernel, rfl, by decide +kernel, by decide +kernel⟩
abbrev M_law : List Bool := [true]
abbrev s_law : Stmt := top 48
abbrev N_law : List Str := ["_law_script", "_law_seed", "_law_n", "_law_other", "_law_letters_here", "_law_cells", "_law_carpet_here", "_law_most", "_law_found", "_law_table_here", "_law_k", "_law_cell", "_law_wish", "_law_price_here", "_law_size_here", "_law_j"]
theorem sc_law : FnScope N_law ["_law_script"] (defScope s_law) := ⟨rfl, rfl, rfl, by decide +kernel, rfl, by decide +kernel, by decide +kernel⟩
abbrev F_law : FSp := FLaw
def F_turned_place : FSp := fun ds P _ => ∃ (w : Way) (r c : Int), ds = [.str w.str, dPl r c] ∧ P (.val (dPl (gR w r c) (gC w r c)))
def F_led : FSp := fun ds P _ => ∃ (n : Int) (w : Way) (d r y x : Int), ds = [.int n, dMv w d r, dPl y x] ∧ 0 < n ∧ P (.val (dPl (lR n w d y x) (lC n w r y x)))
def F_way_of : FSp := fun ds P _ => ∃ (w : Way), ds = [.tup [.int (sgA w), .int (sgB w), .int (sgC w), .int (sgD w)]] ∧ P (.val (.str w.str))
def F_then : FSp := fun ds P _ => ∃ (n : Int) (a b : Mv), ds = [.int n, dM a, dM b] ∧ 0 < n ∧ P (.val (dM (thn n a b)))
def F_circle_from : FSp := fun ds P _ => ∃ (n : Nat) (L : List Mv) (p : Pl), ds = [.int n, .lst (L.map dM), dP p] ∧ 0 < n ∧ n ≤ 100 ∧ (∀ x ∈ L, x.ok n) ∧ p ∈ allP n ∧ P (.fr (.lst ((circP n L p).map dP)))
def F_circles : FSp := fun ds P _ => ∃ (n : Nat) (L : List Mv), ds = [.int n, .lst (L.map dM)] ∧ 0 < n ∧ n ≤ 100 ∧ (∀ x ∈ L, x.ok n) ∧ P (.fr (.lst ((rootsL n L).map fun p => dLP (circP n L p))))
def F_made : FSp := fun ds P _ => ∃ (n : Nat) (L : List Mv), ds = [.int n, .lst (L.map dM)] ∧ 0 < n ∧ n ≤ 100 ∧ (∀ x ∈ L, x.ok n) ∧ P (.fr (.lst ((madeL n L).map dM)))
def F_most_had : FSp := fun ds P _ => ∃ (n : Nat) (f : Cp) (C : List Pl), ds = [cpD n f, .lst (C.map dP)] ∧ n ≤ 100 ∧ okC f ∧ (∀ p ∈ C, p ∈ allP n) ∧ C ≠ [] ∧ C.length ≤ 100000 ∧ ∀ (x : Nat) (T : List Nat) (m : Int), Mode (colsL f C) x m → P (.val (.tup [.int m, .lst ((x :: T).map sgn)]))
def F_with_colours : FSp := fun ds P _ => ∃ (n : Nat) (L : List Mv) (f : Cp), ds = [.int n, papD n L f] ∧ 0 < n ∧ n ≤ 100 ∧ (∀ x ∈ L, x.ok n) ∧ okC f ∧ P (.val (cpD n (menF n L f)))
def F_by_paper : FSp := fun ds P _ => ∃ (n : Nat) (L : List Mv) (f : Cp), ds = [cpD n f, papD n L f] ∧ 0 < n ∧ n ≤ 100 ∧ (∀ x ∈ L, x.ok n) ∧ okC f ∧ P (.val (menD n L f))
def F_mended : FSp := fun ds P _ => ∃ (n : Nat) (L : List Mv) (f : Cp), ds = [cpD n f, .lst (L.map dM)] ∧ 0 < n ∧ n ≤ 100 ∧ (∀ x ∈ L, x.ok n) ∧ okC f ∧ P (.val (menD n L f))
def F_lattices : FSp := fun ds P _ => ∃ (n : Nat), ds = [.int n] ∧ 0 < n ∧ n ≤ 3 ∧ ∀ Lt : List Lat, LatOk n Lt → Lt.length ≤ 81 → P (.fr (.lst (Lt.map latD)))
def F_lifts : FSp := fun ds P _ => ∃ (n : Nat) (H : List Way) (S : List Mv), ds = [.int n, .ktup (H.map fun w => D.str w.str), .lst (S.map dM)] ∧ 0 < n ∧ n ≤ 3 ∧ H.length ≤ 2 ∧ S.length ≤ 1000 ∧ stayM ∈ S ∧ (∀ s ∈ S, s.w = .stay) ∧ ∀ (A : List (List Mv)) (rv : RV), LiftOk n H S A → A.length ≤ 81 → (rv = .val (.lst (A.map aD)) ∨ rv = .fr (.lst (A.map aD))) → P rv
def F_divisor : FSp := fun ds P _ => ∃ (xs : List Nat), ds = [.lst (xs.map fun x => D.int ((x : Nat) : Int))] ∧ (∀ x ∈ xs, x ≤ 100000) ∧ P (.val (.int ((xs.foldl Nat.gcd 0 : Nat) : Int)))
def F_all_groups : FSp := fun ds P _ => ∃ (n : Nat), ds = [.int n] ∧ 0 < n ∧ n ≤ 3 ∧ ∀ G : List Grp, GroupsOk n G → P (.fr (.lst (G.map grpD)))
def F_bettered : FSp := fun ds P Xp => ∃ (n : Nat) (f : Cp) (most : Int), ds = [cpD n f, .int most] ∧ 0 < n ∧ n ≤ 100 ∧ okC f ∧ 0 ≤ most ∧ (3 < n → Xp ⟨"TooLarge", [(.str "many", .int ((n : Int) * n))]⟩) ∧
  (n ≤ 3 → ∀ (G : List Grp) (few : List Mv), GroupsOk n G → BestI n f most (· ∈ G) few → P (.val (.tup [.lst (few.map dM), .int ((szM n few : Nat) : Int), menD n few f])))
def F_L_cell_at : FSp := fun ds P _ => ∃ (ns : List Int) (k : Int), ds = [.lst (ns.map D.int), .int k] ∧ 0 ≤ k ∧ P (.val (.int (cellAt ns k)))
def F_L_whole : FSp := fun ds P _ => ∃ (n : Int), ds = [.int n] ∧ P (.val (.bl true))
def F_L_mixed : FSp := fun ds P _ => ∃ (c k : Int), ds = [.int c, .int k] ∧ 0 ≤ k ∧ k ≤ 1000 ∧ ∀ z : Int, 0 ≤ z → z < 2147483629 → P (.val (.int z))
def F_L_led : FSp := fun ds P _ => ∃ (n : Int) (m : Mv) (y x : Int), ds = [.int n, dM m, dPl y x] ∧ 0 < n ∧ P (.val (dPl (lR n m.w m.d y x) (lC n m.w m.r y x)))
def F_L_moved : FSp := fun ds P _ => ∃ (n : Nat) (f : Cp) (m : Mv), ds = [cpD n f, dM m] ∧ 0 < n ∧ n ≤ 100 ∧ m.ok n ∧ P (.val (cpD n (movF n m f)))
def F_L_all : FSp := fun ds P _ => ∃ (n : Nat), ds = [.int n] ∧ n ≤ 8 ∧ P (.fr (.lst ((allW n).map dM)))
def F_L_movement : FSp := fun ds P _ => ∃ (n : Nat) (x : Int), ds = [.int n, .int x] ∧ 0 < n ∧ n ≤ 8 ∧ ∀ m : Mv, m.ok n → P (.val (dM m))
def F_L_is_movement : FSp := fun ds P _ => ∃ (n : Nat) (m : Mv), ds = [.int n, dM m] ∧ n ≤ 8 ∧ m.ok n ∧ P (.val (.bl true))
def F_L_letters : FSp := fun ds P _ => ∃ (sd : Int) (k : Nat), ds = [.int sd, .int k] ∧ 0 ≤ sd ∧ 0 < k ∧ k ≤ 26 ∧ ∀ ls, okLs ls → P (.fr (.lst (ls.map sgn)))
def F_L_carpet : FSp := fun ds P _ => ∃ (ms : List Int) (n : Nat) (ls : List Nat) (sd : Int), ds = [.lst (ms.map D.int), .int n, .lst (ls.map sgn), .int sd] ∧ 0 < ms.length ∧ 0 < n ∧ n ≤ 8 ∧ okLs ls ∧ ∀ f, okA f → P (.val (cpD n f))
def F_L_circles : FSp := fun ds P _ => ∃ (n : Nat) (L : List Mv), ds = [.int n, .lst (L.map dM)] ∧ 0 < n ∧ n ≤ 100 ∧ (∀ x ∈ L, x.ok n) ∧ P (.fr (.lst ((rootsL n L).map fun p => dLP (circP n L p))))
def F_L_had : FSp := fun ds P _ => ∃ (n : Nat) (f : Cp) (C : List Pl), ds = [cpD n f, .lst (C.map dP)] ∧ n ≤ 100 ∧ (∀ p ∈ C, p ∈ allP n) ∧ C.length ≤ 100000 ∧ ∀ F : List Nat, HadI (colsL f C) F → F.length ≤ C.length → P (.fr (.dic false (kvA sgn (cntD (colsL f C)) F)))
def F_L_image : FSp := fun ds P _ => ∃ (Ws : List Way), ds = [.lst (Ws.map wD)] ∧ Ws.length ≤ 10 ∧ P (.fr (.lst ((imgP Ws).map dP)))
def F_L_table : FSp := fun ds P _ => ds = [] ∧ ∀ kvs, Tab (fun _ _ => True) kvs → P (.fr (.dic true kvs))
def F_L_size : FSp := fun ds P _ => ∃ (n : Nat) (L : List Mv) (kvs : List (D × D)), ds = [.int n, .lst (L.map dM), .dic true kvs] ∧ 0 < n ∧ n ≤ 100 ∧ (∀ x ∈ L, x.ok n) ∧ Tab (fun _ _ => True) kvs ∧ P (.val (.int (szM n L : Nat)))
def F_L_price : FSp := fun ds P _ => ∃ (n : Nat) (f : Cp) (L : List Mv), ds = [cpD n f, .lst (L.map dM)] ∧ 0 < n ∧ n ≤ 100 ∧ (∀ x ∈ L, x.ok n) ∧ okC f ∧ P (.val (.int (chg n L f : Nat)))
def F_L_told_well : FSp := fun ds P _ => ∃ (n : Nat) (few : List Mv) (f : Cp) (most : Int) (kvs : List (D × D)), ds = [.tup [.lst (few.map dM), .int (szM n few : Nat), menD n few f], cpD n f, .int most, .dic true kvs] ∧ 0 < n ∧ n ≤ 3 ∧ okC f ∧ Tab (fun _ _ => True) kvs ∧
  (∀ m ∈ few, m.ok n) ∧ few.length ≤ 4 ∧ (chg n few f : Int) ≤ most ∧ P (.val (.bl true))
def F_L_again : FSpP := fun d ds P => ∃ (n : Nat) (few : List Mv) (f : Cp) (most : Int) (kvs : List (D × D)), d = .tup [.lst (few.map dM), .int (szM n few : Nat), menD n few f] ∧ ds = [cpD n f, .int most, .dic true kvs] ∧ 0 < n ∧ n ≤ 3 ∧ okC f ∧ Tab (fun _ _ => True) kvs ∧ 0 ≤ most ∧ few.length ≤ 4 ∧
  (∀ G few', GroupsOk n G → BestI n f most (· ∈ G) few' → szM n few' = szM n few ∧ chg n few' f = chg n few f) ∧ P true
theorem e_turned_place (d0 d1 : D) : startE M_turned_place [d0, d1] N_turned_place.length = [.val d0, .val d1, .emp, .emp, .emp, .emp] := rfl
def t_turned_place : STt :=
  sSeq (sAsg (gTp 4 (gsCons (gNm 2) (gsCons (gNm 3) (gsCons (gNm 4) (gsCons (gNm 5) (gsNil)))))) (eOp2 opIdx (eC K_SIGNS) (eVar 0)))
  (sRet (eTup (aCons (eOp2 opAdd (eOp2 opMul (eVar 2) (eOp2 opIdx (eVar 1) (eC (.int 0)))) (eOp2 opMul (eVar 3) (eOp2 opIdx (eVar 1) (eC (.int 1))))) (aCons (eOp2 opAdd (eOp2 opMul (eVar 4) (eOp2 opIdx (eVar 1) (eC (.int 0)))) (eOp2 opMul (eVar 5) (eOp2 opIdx (eVar 1) (eC (.int 1))))) (aNil)))))
theorem b_turned_place {c : Cfg} {k : Nat} (g_SIGNS : Glb c "SIGNS" K_SIGNS) : VSs (c.inn k N_turned_place (defScope s_turned_place)) (defBody s_turned_place) t_turned_place :=
  vss_cons (vs_asg (vg_tup (vgs_cons (vg_name (stoI (by decide +kernel))) (vgs_cons (vg_name (stoI (by decide +kernel))) (vgs_cons (vg_name (stoI (by decide +kernel))) (vgs_cons (vg_name (stoI (by decide +kernel))) (vgs_nil)))))) (ve_idx (ve_glb g_SIGNS.inn (glI (by decide +kernel)) (by decide)) (ve_var (visI (by decide +kernel)))))
  (vss_one (vs_ret (ve_tup (va_cons (ve_add (ve_mul (ve_var (visI (by decide +kernel))) (ve_idx (ve_var (visI (by decide +kernel))) (ve_int))) (ve_mul (ve_var (visI (by decide +kernel))) (ve_idx (ve_var (visI (by decide +kernel))) (ve_int)))) (va_cons (ve_add (ve_mul (ve_var (visI (by decide +kernel))) (ve_idx (ve_var (visI (by decide +kernel))) (ve_int))) (ve_mul (ve_var (visI (by decide +kernel))) (ve_idx (ve_var (visI (by decide +kernel))) (ve_int)))) (va_nil))))))
theorem e_led (d0 d1 d2 : D) : startE M_led [d0, d1, d2] N_led.length = [.val d0, .val d1, .val d2, .emp, .emp] := rfl
def t_led : STt :=
  sSeq (sAsg (gTp 2 (gsCons (gNm 3) (gsCons (gNm 4) (gsNil)))) (eCall M_turned_place F_turned_place (aCons (eOp2 opIdx (eVar 1) (eC (.int 0))) (aCons (eVar 2) (aNil)))))
  (sRet (eTup (aCons (eOp2 opMod (eOp2 opAdd (eVar 3) (eOp2 opIdx (eVar 1) (eC (.int 1)))) (eVar 0)) (aCons (eOp2 opMod (eOp2 opAdd (eVar 4) (eOp2 opIdx (eVar 1) (eC (.int 2)))) (eVar 0)) (aNil)))))
theorem b_led {c : Cfg} {k : Nat} (f_turned_place : FnC (c.lv k) "turned_place" M_turned_place F_turned_place) : VSs (c.inn k N_led (defScope s_led)) (defBody s_led) t_led :=
  vss_cons (vs_asg (vg_tup (vgs_cons (vg_name (stoI (by decide +kernel))) (vgs_cons (vg_name (stoI (by decide +kernel))) (vgs_nil)))) (ve_call f_turned_place.inn (glI (by decide +kernel)) (va_cons (ve_idx (ve_var (visI (by decide +kernel))) (ve_int)) (va_cons (ve_var (visI (by decide +kernel))) (va_nil)))))
  (vss_one (vs_ret (ve_tup (va_cons (ve_mod (ve_add (ve_var (visI (by decide +kernel))) (ve_idx (ve_var (visI (by decide +kernel))) (ve_int))) (ve_var (visI (by decide +kernel)))) (va_cons (ve_mod (ve_add (ve_var (visI (by decide +kernel))) (ve_idx (ve_var (visI (by decide +kernel))) (ve_int))) (ve_var (visI (by decide +kernel)))) (va_nil))))))
theorem e_way_of (d0 : D) : startE M_way_of [d0] N_way_of.length = [.val d0, .emp] := rfl
def t_way_of : STt :=
  sRet (eOp2 opIdx (eLc (iSeq (eC K_WAYS)) (gNm 1) (tV (eOp2 opEq (eOp2 opIdx (eC K_SIGNS) (eVar 1)) (eVar 0))) (eVar 1) [1]) (eC (.int 0)))
theorem b_way_of {c : Cfg} {k : Nat} (g_WAYS : Glb c "WAYS" K_WAYS) (g_SIGNS : Glb c "SIGNS" K_SIGNS) : VSs (c.inn k N_way_of (defScope s_way_of)) (defBody s_way_of) t_way_of :=
  vss_one (vs_ret (ve_idx (ve_lc (own := [("way", 1)]) (vi_seq (ve_glb g_WAYS.inn (glI (by decide +kernel)) (by decide))) (by decide +kernel) (vg_name (stoK (by decide +kernel))) (vts_one (vt_eq (ve_idx (ve_glb g_SIGNS.blk (glK (by decide +kernel)) (by decide)) (ve_var (visK (by decide +kernel)))) (ve_var (visK (by decide +kernel))))) (ve_var (visK (by decide +kernel)))) (ve_int)))
theorem e_then (d0 d1 d2 : D) : startE M_then [d0, d1, d2] N_then.length = [.val d0, .val d1, .val d2, .emp, .emp, .emp, .emp, .emp, .emp, .emp, .emp, .emp, .emp, .emp] := rfl
def t_then : STt :=
  sSeq (sAsg (gTp 4 (gsCons (gNm 3) (gsCons (gNm 4) (gsCons (gNm 5) (gsCons (gNm 6) (gsNil)))))) (eOp2 opIdx (eC K_SIGNS) (eOp2 opIdx (eVar 1) (eC (.int 0)))))
  (sSeq (sAsg (gTp 4 (gsCons (gNm 7) (gsCons (gNm 8) (gsCons (gNm 9) (gsCons (gNm 10) (gsNil)))))) (eOp2 opIdx (eC K_SIGNS) (eOp2 opIdx (eVar 2) (eC (.int 0)))))
  (sSeq (sSet 11 (eCall M_way_of F_way_of (aCons (eTup (aCons (eOp2 opAdd (eOp2 opMul (eVar 7) (eVar 3)) (eOp2 opMul (eVar 8) (eVar 5))) (aCons (eOp2 opAdd (eOp2 opMul (eVar 7) (eVar 4)) (eOp2 opMul (eVar 8) (eVar 6))) (aCons (eOp2 opAdd (eOp2 opMul (eVar 9) (eVar 3)) (eOp2 opMul (eVar 10) (eVar 5))) (aCons (eOp2 opAdd (eOp2 opMul (eVar 9) (eVar 4)) (eOp2 opMul (eVar 10) (eVar 6))) (aNil)))))) (aNil))))
  (sSeq (sAsg (gTp 2 (gsCons (gNm 12) (gsCons (gNm 13) (gsNil)))) (eCall M_led F_led (aCons (eVar 0) (aCons (eVar 2) (aCons (eTup (aCons (eOp2 opIdx (eVar 1) (eC (.int 1))) (aCons (eOp2 opIdx (eVar 1) (eC (.int 2))) (aNil)))) (aNil))))))
  (sRet (eTup (aCons (eVar 11) (aCons (eVar 12) (aCons (eVar 13) (aNil)))))))))
theorem b_then {c : Cfg} {k : Nat} (f_way_of : FnC (c.lv k) "way_of" M_way_of F_way_of) (f_led : FnC (c.lv k) "led" M_led F_led) (g_SIGNS : Glb c "SIGNS" K_SIGNS) : VSs (c.inn k N_then (defScope s_then)) (defBody s_then) t_then :=
  vss_cons (vs_asg (vg_tup (vgs_cons (vg_name (stoI (by decide +kernel))) (vgs_cons (vg_name (stoI (by decide +kernel))) (vgs_cons (vg_name (stoI (by decide +kernel))) (vgs_cons (vg_name (stoI (by decide +kernel))) (vgs_nil)))))) (ve_idx (ve_glb g_SIGNS.inn (glI (by decide +kernel)) (by decide)) (ve_idx (ve_var (visI (by decide +kernel))) (ve_int))))
  (vss_cons (vs_asg (vg_tup (vgs_cons (vg_name (stoI (by decide +kernel))) (vgs_cons (vg_name (stoI (by decide +kernel))) (vgs_cons (vg_name (stoI (by decide +kernel))) (vgs_cons (vg_name (stoI (by decide +kernel))) (vgs_nil)))))) (ve_idx (ve_glb g_SIGNS.inn (glI (by decide +kernel)) (by decide)) (ve_idx (ve_var (visI (by decide +kernel))) (ve_int))))
  (vss_cons (vs_set (stoI (by decide +kernel)) (ve_call f_way_of.inn (glI (by decide +kernel)) (va_cons (ve_tup (va_cons (ve_add (ve_mul (ve_var (visI (by decide +kernel))) (ve_var (visI (by decide +kernel)))) (ve_mul (ve_var (visI (by decide +kernel))) (ve_var (visI (by decide +kernel))))) (va_cons (ve_add (ve_mul (ve_var (visI (by decide +kernel))) (ve_var (visI (by decide +kernel)))) (ve_mul (ve_var (visI (by decide +kernel))) (ve_var (visI (by decide +kernel))))) (va_cons (ve_add (ve_mul (ve_var (visI (by decide +kernel))) (ve_var (visI (by decide +kernel)))) (ve_mul (ve_var (visI (by decide +kernel))) (ve_var (visI (by decide +kernel))))) (va_cons (ve_add (ve_mul (ve_var (visI (by decide +kernel))) (ve_var (visI (by decide +kernel)))) (ve_mul (ve_var (visI (by decide +kernel))) (ve_var (visI (by decide +kernel))))) (va_nil)))))) (va_nil))))
  (vss_cons (vs_asg (vg_tup (vgs_cons (vg_name (stoI (by decide +kernel))) (vgs_cons (vg_name (stoI (by decide +kernel))) (vgs_nil)))) (ve_call f_led.inn (glI (by decide +kernel)) (va_cons (ve_var (visI (by decide +kernel))) (va_cons (ve_var (visI (by decide +kernel))) (va_cons (ve_tup (va_cons (ve_idx (ve_var (visI (by decide +kernel))) (ve_int)) (va_cons (ve_idx (ve_var (visI (by decide +kernel))) (ve_int)) (va_nil)))) (va_nil))))))
  (vss_one (vs_ret (ve_tup (va_cons (ve_var (visI (by decide +kernel))) (va_cons (ve_var (visI (by decide +kernel))) (va_cons (ve_var (visI (by decide +kernel))) (va_nil))))))))))
theorem e_circle_from (d0 d1 d2 : D) : startE M_circle_from [d0, d1, d2] N_circle_from.length = [.val d0, .bor d1, .val d2, .emp, .emp, .emp, .emp, .emp] := rfl
def t_circle_from : STt :=
  sSeq (sSet 3 (eDic1 (eVar 2) (eC (.bl true))))
  (sSeq (sSet 4 (eLst (aCons (eVar 2) (aNil))))
  (sSeq (sWhile (tV (eOp2 opNe (eVar 4) (eLst (aNil)))) (sSeq (sSet 5 (ePop 4))
  (sFor (iSeq (eVar 1)) (gNm 6) (sSeq (sSet 7 (eCall M_led F_led (aCons (eVar 0) (aCons (eVar 6) (aCons (eVar 5) (aNil))))))
  (sIf (tV (eOp2 (opIn true) (eVar 7) (eVar 3))) (sSeq (sPut 3 (eVar 7) (eC (.bl true)))
  (sDrop (eApp 4 (eVar 7)))) (sNext))))))
  (sRet (eOpn opSorted (aCons (eVar 3) (aNil))))))
theorem b_circle_from {c : Cfg} {k : Nat} (f_led : FnC (c.lv k) "led" M_led F_led) (m_sorted : c.mg "sorted" = none) : VSs (c.inn k N_circle_from (defScope s_circle_from)) (defBody s_circle_from) t_circle_from :=
  vss_cons (vs_set (stoI (by decide +kernel)) (ve_dic1 (ve_var (visI (by decide +kernel))) (ve_bl)))
  (vss_cons (vs_set (stoI (by decide +kernel)) (ve_lst (va_cons (ve_var (visI (by decide +kernel))) (va_nil))))
  (vss_cons (vs_while (vt_ne (ve_var (visI (by decide +kernel))) (ve_lst (va_nil))) (vss_cons (vs_set (stoI (by decide +kernel)) (ve_pop (visI (by decide +kernel))))
  (vss_one (vs_for (vi_seq (ve_var (visI (by decide +kernel)))) (vg_name (stoI (by decide +kernel))) (vss_cons (vs_set (stoI (by decide +kernel)) (ve_call f_led.inn (glI (by decide +kernel)) (va_cons (ve_var (visI (by decide +kernel))) (va_cons (ve_var (visI (by decide +kernel))) (va_cons (ve_var (visI (by decide +kernel))) (va_nil))))))
  (vss_one (vs_if (vt_notin (ve_var (visI (by decide +kernel))) (ve_var (visI (by decide +kernel)))) (vss_cons (vs_put (visI (by decide +kernel)) (ve_bl) (ve_var (visI (by decide +kernel))))
  (vss_one (vs_expr (ve_app (visI (by decide +kernel)) (ve_var (visI (by decide +kernel))))))) (vss_nil))))))))
  (vss_one (vs_ret (ve_blt (bltI (u := .builtin "sorted") m_sorted (by decide +kernel) (by decide +kernel) (by decide +kernel) (by decide +kernel)) (fun X g => r_sorted g) sorted_s (va_cons (ve_var (visI (by decide +kernel))) (va_nil)))))))
theorem e_circles (d0 d1 : D) : startE M_circles [d0, d1] N_circles.length = [.val d0, .bor d1, .emp, .emp, .emp, .emp, .emp, .emp] := rfl
def t_circles : STt :=
  sSeq (sSet 2 (eDic0 true))
  (sSeq (sSet 3 (eLst (aNil)))
  (sSeq (sFor (iRg1 (aCons (eVar 0) (aNil))) (gNm 4) (sFor (iRg1 (aCons (eVar 0) (aNil))) (gNm 5) (sIf (tV (eOp2 (opIn true) (eTup (aCons (eVar 4) (aCons (eVar 5) (aNil)))) (eVar 2))) (sSeq (sSet 6 (eCall M_circle_from F_circle_from (aCons (eVar 0) (aCons (eVar 1) (aCons (eTup (aCons (eVar 4) (aCons (eVar 5) (aNil)))) (aNil))))))
  (sSeq (sDrop (eApp 3 (eVar 6)))
  (sFor (iSeq (eVar 6)) (gNm 7) (sPut 2 (eVar 7) (eC (.bl true)))))) (sNext))))
  (sRet (eVar 3))))
theorem b_circles {c : Cfg} {k : Nat} (f_circle_from : FnC (c.lv k) "circle_from" M_circle_from F_circle_from) (m_range : c.mg "range" = none) : VSs (c.inn k N_circles (defScope s_circles)) (defBody s_circles) t_circles :=
  vss_cons (vs_set (stoI (by decide +kernel)) (ve_dic0T))
  (vss_cons (vs_set (stoI (by decide +kernel)) (ve_lst (va_nil)))
  (vss_cons (vs_for (vi_rg1 (bltI (u := .type "range") m_range (by decide +kernel) (by decide +kernel) (by decide +kernel) (by decide +kernel)) (va_cons (ve_var (visI (by decide +kernel))) (va_nil))) (vg_name (stoI (by decide +kernel))) (vss_one (vs_for (vi_rg1 (bltI (u := .type "range") m_range (by decide +kernel) (by decide +kernel) (by decide +kernel) (by decide +kernel)) (va_cons (ve_var (visI (by decide +kernel))) (va_nil))) (vg_name (stoI (by decide +kernel))) (vss_one (vs_if (vt_notin (ve_tup (va_cons (ve_var (visI (by decide +kernel))) (va_cons (ve_var (visI (by decide +kernel))) (va_nil)))) (ve_var (visI (by decide +kernel)))) (vss_cons (vs_set (stoI (by decide +kernel)) (ve_call f_circle_from.inn (glI (by decide +kernel)) (va_cons (ve_var (visI (by decide +kernel))) (va_cons (ve_var (visI (by decide +kernel))) (va_cons (ve_tup (va_cons (ve_var (visI (by decide +kernel))) (va_cons (ve_var (visI (by decide +kernel))) (va_nil)))) (va_nil))))))
  (vss_cons (vs_expr (ve_app (visI (by decide +kernel)) (ve_var (visI (by decide +kernel)))))
  (vss_one (vs_for (vi_seq (ve_var (visI (by decide +kernel)))) (vg_name (stoI (by decide +kernel))) (vss_one (vs_put (visI (by decide +kernel)) (ve_bl) (ve_var (visI (by decide +kernel))))))))) (vss_nil))))))
  (vss_one (vs_ret (ve_var (visI (by decide +kernel)))))))
theorem e_made (d0 d1 : D) : startE M_made [d0, d1] N_made.length = [.val d0, .bor d1, .emp, .emp, .emp, .emp, .emp, .emp] := rfl
def t_made : STt :=
  sSeq (sSet 2 (eTup (aCons (eC (.str "stay")) (aCons (eC (.int 0)) (aCons (eC (.int 0)) (aNil))))))
  (sSeq (sSet 3 (eDic1 (eVar 2) (eC (.bl true))))
  (sSeq (sSet 4 (eLst (aCons (eVar 2) (aNil))))
  (sSeq (sWhile (tV (eOp2 opNe (eVar 4) (eLst (aNil)))) (sSeq (sSet 5 (ePop 4))
  (sFor (iSeq (eVar 1)) (gNm 6) (sSeq (sSet 7 (eCall M_then F_then (aCons (eVar 0) (aCons (eVar 5) (aCons (eVar 6) (aNil))))))
  (sIf (tV (eOp2 (opIn true) (eVar 7) (eVar 3))) (sSeq (sPut 3 (eVar 7) (eC (.bl true)))
  (sDrop (eApp 4 (eVar 7)))) (sNext))))))
  (sRet (eOpn opSorted (aCons (eVar 3) (aNil)))))))
theorem b_made {c : Cfg} {k : Nat} (f_then : FnC (c.lv k) "then" M_then F_then) (m_sorted : c.mg "sorted" = none) : VSs (c.inn k N_made (defScope s_made)) (defBody s_made) t_made :=
  vss_cons (vs_set (stoI (by decide +kernel)) (ve_tup (va_cons (ve_str) (va_cons (ve_int) (va_cons (ve_int) (va_nil))))))
  (vss_cons (vs_set (stoI (by decide +kernel)) (ve_dic1 (ve_var (visI (by decide +kernel))) (ve_bl)))
  (vss_cons (vs_set (stoI (by decide +kernel)) (ve_lst (va_cons (ve_var (visI (by decide +kernel))) (va_nil))))
  (vss_cons (vs_while (vt_ne (ve_var (visI (by decide +kernel))) (ve_lst (va_nil))) (vss_cons (vs_set (stoI (by decide +kernel)) (ve_pop (visI (by decide +kernel))))
  (vss_one (vs_for (vi_seq (ve_var (visI (by decide +kernel)))) (vg_name (stoI (by decide +kernel))) (vss_cons (vs_set (stoI (by decide +kernel)) (ve_call f_then.inn (glI (by decide +kernel)) (va_cons (ve_var (visI (by decide +kernel))) (va_cons (ve_var (visI (by decide +kernel))) (va_cons (ve_var (visI (by decide +kernel))) (va_nil))))))
  (vss_one (vs_if (vt_notin (ve_var (visI (by decide +kernel))) (ve_var (visI (by decide +kernel)))) (vss_cons (vs_put (visI (by decide +kernel)) (ve_bl) (ve_var (visI (by decide +kernel))))
  (vss_one (vs_expr (ve_app (visI (by decide +kernel)) (ve_var (visI (by decide +kernel))))))) (vss_nil))))))))
  (vss_one (vs_ret (ve_blt (bltI (u := .builtin "sorted") m_sorted (by decide +kernel) (by decide +kernel) (by decide +kernel) (by decide +kernel)) (fun X g => r_sorted g) sorted_s (va_cons (ve_var (visI (by decide +kernel))) (va_nil))))))))
theorem e_most_had (d0 d1 : D) : startE M_most_had [d0, d1] N_most_had.length = [.val d0, .val d1, .emp, .emp, .emp, .emp, .emp] := rfl
def t_most_had : STt :=
  sSeq (sSet 2 (eDic0 false))
  (sSeq (sFor (iSeq (eVar 1)) (gTp 2 (gsCons (gNm 3) (gsCons (gNm 4) (gsNil)))) (sPut 2 (eOp2 opIdx (eOp2 opIdx (eVar 0) (eVar 3)) (eVar 4)) (eOp2 opAdd (eMth "dict" opGet (eVar 2) (aCons (eOp2 opIdx (eOp2 opIdx (eVar 0) (eVar 3)) (eVar 4)) (aCons (eC (.int 0)) (aNil)))) (eC (.int 1)))))
  (sSeq (sSet 5 (eMaxV (eVar 2)))
  (sRet (eTup (aCons (eVar 5) (aCons (eOpn opSorted (aCons (eLc (iDk 2) (gNm 6) (tV (eOp2 opEq (eOp2 opIdx (eVar 2) (eVar 6)) (eVar 5))) (eVar 6) [6]) (aNil))) (aNil)))))))
theorem b_most_had {c : Cfg} {k : Nat} (m_max : c.mg "max" = none) (m_sorted : c.mg "sorted" = none) : VSs (c.inn k N_most_had (defScope s_most_had)) (defBody s_most_had) t_most_had :=
  vss_cons (vs_set (stoI (by decide +kernel)) (ve_dic0K))
  (vss_cons (vs_for (vi_seq (ve_var (visI (by decide +kernel)))) (vg_tup (vgs_cons (vg_name (stoI (by decide +kernel))) (vgs_cons (vg_name (stoI (by decide +kernel))) (vgs_nil)))) (vss_one (vs_put (visI (by decide +kernel)) (ve_add (ve_mth PySem.F.plainAttrs_dict PySem.F.slot_dict_get PySem.F.type_dict_get (fun X g => r_get g) get_s (ve_var (visI (by decide +kernel))) (va_cons (ve_idx (ve_idx (ve_var (visI (by decide +kernel))) (ve_var (visI (by decide +kernel)))) (ve_var (visI (by decide +kernel)))) (va_cons (ve_int) (va_nil)))) (ve_int)) (ve_idx (ve_idx (ve_var (visI (by decide +kernel))) (ve_var (visI (by decide +kernel)))) (ve_var (visI (by decide +kernel)))))))
  (vss_cons (vs_set (stoI (by decide +kernel)) (ve_maxV (bltI (u := .builtin "max") m_max (by decide +kernel) (by decide +kernel) (by decide +kernel) (by decide +kernel)) (ve_var (visI (by decide +kernel)))))
  (vss_one (vs_ret (ve_tup (va_cons (ve_var (visI (by decide +kernel))) (va_cons (ve_blt (bltI (u := .builtin "sorted") m_sorted (by decide +kernel) (by decide +kernel) (by decide +kernel) (by decide +kernel)) (fun X g => r_sorted g) sorted_s (va_cons (ve_lc (own := [("colour", 6)]) (vi_dk (ve_var (visI (by decide +kernel)))) (by decide +kernel) (vg_name (stoK (by decide +kernel))) (vts_one (vt_eq (ve_idx (ve_var (visK (by decide +kernel))) (ve_var (visK (by decide +kernel)))) (ve_var (visK (by decide +kernel))))) (ve_var (visK (by decide +kernel)))) (va_nil))) (va_nil))))))))
theorem e_with_colours (d0 d1 : D) : startE M_with_colours [d0, d1] N_with_colours.length = [.val d0, .val d1, .emp, .emp, .emp, .emp, .emp, .emp, .emp] := rfl
def t_with_colours : STt :=
  sSeq (sSet 2 (eDic0 true))
  (sSeq (sFor (iSeq (eVar 1)) (gTp 3 (gsCons (gNm 3) (gsCons (gNm 4) (gsCons (gNm 5) (gsNil))))) (sFor (iSeq (eVar 3)) (gNm 6) (sPut 2 (eVar 6) (eVar 4))))
  (sRet (eOpn opTuple (aCons (eLc (iRg1 (aCons (eVar 0) (aNil))) (gNm 7) (tYesD) (eMth "str" opJoin (eC (.str "")) (aCons (eLc (iRg1 (aCons (eVar 0) (aNil))) (gNm 8) (tYesD) (eOp2 opIdx (eVar 2) (eTup (aCons (eVar 7) (aCons (eVar 8) (aNil))))) [8]) (aNil))) [7]) (aNil)))))
theorem b_with_colours {c : Cfg} {k : Nat} (m_range : c.mg "range" = none) (m_tuple : c.mg "tuple" = none) : VSs (c.inn k N_with_colours (defScope s_with_colours)) (defBody s_with_colours) t_with_colours :=
  vss_cons (vs_set (stoI (by decide +kernel)) (ve_dic0T))
  (vss_cons (vs_for (vi_seq (ve_var (visI (by decide +kernel)))) (vg_tup (vgs_cons (vg_name (stoI (by decide +kernel))) (vgs_cons (vg_name (stoI (by decide +kernel))) (vgs_cons (vg_name (stoI (by decide +kernel))) (vgs_nil))))) (vss_one (vs_for (vi_seq (ve_var (visI (by decide +kernel)))) (vg_name (stoI (by decide +kernel))) (vss_one (vs_put (visI (by decide +kernel)) (ve_var (visI (by decide +kernel))) (ve_var (visI (by decide +kernel))))))))
  (vss_one (vs_ret (ve_bty (bltI (u := .type "tuple") m_tuple (by decide +kernel) (by decide +kernel) (by decide +kernel) (by decide +kernel)) (fun X g => r_tuple g) tuple_s (va_cons (ve_lc (own := [("r", 7)]) (vi_rg1 (bltI (u := .type "range") m_range (by decide +kernel) (by decide +kernel) (by decide +kernel) (by decide +kernel)) (va_cons (ve_var (visI (by decide +kernel))) (va_nil))) (by decide +kernel) (vg_name (stoK (by decide +kernel))) (vts_nil) (ve_mth PySem.F.plainAttrs_str PySem.F.slot_str_join PySem.F.type_str_join (fun X g => r_join g) join_s (ve_str) (va_cons (ve_lcK (own := [("c", 8)]) (vi_rg1 (bltK (u := .type "range") m_range (by decide +kernel) (by decide +kernel) (by decide +kernel) (by decide +kernel)) (va_cons (ve_var (visK (by decide +kernel))) (va_nil))) (by decide +kernel) (vg_name (stoK2 (by decide +kernel))) (vts_nil) (ve_idx (ve_var (visK2 (by decide +kernel))) (ve_tup (va_cons (ve_var (visK2 (by decide +kernel))) (va_cons (ve_var (visK2 (by decide +kernel))) (va_nil)))))) (va_nil)))) (va_nil))))))
theorem e_by_paper (d0 d1 : D) : startE M_by_paper [d0, d1] N_by_paper.length = [.val d0, .val d1, .emp, .emp, .emp, .emp, .emp] := rfl
def t_by_paper : STt :=
  sSeq (sSet 2 (eOpn opLen (aCons (eVar 0) (aNil))))
  (sSeq (sSet 3 (eCall M_with_colours F_with_colours (aCons (eVar 2) (aCons (eVar 1) (aNil)))))
  (sSeq (sSet 4 (eLst (aNil)))
  (sSeq (sFor (iRg1 (aCons (eVar 2) (aNil))) (gNm 5) (sDrop (eExt 4 (eLc (iRg1 (aCons (eVar 2) (aNil))) (gNm 6) (tV (eOp2 opNe (eOp2 opIdx (eOp2 opIdx (eVar 3) (eVar 5)) (eVar 6)) (eOp2 opIdx (eOp2 opIdx (eVar 0) (eVar 5)) (eVar 6)))) (eTup (aCons (eVar 5) (aCons (eVar 6) (aNil)))) [6]))))
  (sRet (eTup (aCons (eVar 3) (aCons (eVar 4) (aCons (eVar 1) (aNil)))))))))
theorem b_by_paper {c : Cfg} {k : Nat} (f_with_colours : FnC (c.lv k) "with_colours" M_with_colours F_with_colours) (m_len : c.mg "len" = none) (m_range : c.mg "range" = none) : VSs (c.inn k N_by_paper (defScope s_by_paper)) (defBody s_by_paper) t_by_paper :=
  vss_cons (vs_set (stoI (by decide +kernel)) (ve_blt (bltI (u := .builtin "len") m_len (by decide +kernel) (by decide +kernel) (by decide +kernel) (by decide +kernel)) (fun X g => r_len g) len_s (va_cons (ve_var (visI (by decide +kernel))) (va_nil))))
  (vss_cons (vs_set (stoI (by decide +kernel)) (ve_call f_with_colours.inn (glI (by decide +kernel)) (va_cons (ve_var (visI (by decide +kernel))) (va_cons (ve_var (visI (by decide +kernel))) (va_nil)))))
  (vss_cons (vs_set (stoI (by decide +kernel)) (ve_lst (va_nil)))
  (vss_cons (vs_for (vi_rg1 (bltI (u := .type "range") m_range (by decide +kernel) (by decide +kernel) (by decide +kernel) (by decide +kernel)) (va_cons (ve_var (visI (by decide +kernel))) (va_nil))) (vg_name (stoI (by decide +kernel))) (vss_one (vs_expr (ve_ext (visI (by decide +kernel)) (ve_lc (own := [("c", 6)]) (vi_rg1 (bltI (u := .type "range") m_range (by decide +kernel) (by decide +kernel) (by decide +kernel) (by decide +kernel)) (va_cons (ve_var (visI (by decide +kernel))) (va_nil))) (by decide +kernel) (vg_name (stoK (by decide +kernel))) (vts_one (vt_ne (ve_idx (ve_idx (ve_var (visK (by decide +kernel))) (ve_var (visK (by decide +kernel)))) (ve_var (visK (by decide +kernel)))) (ve_idx (ve_idx (ve_var (visK (by decide +kernel))) (ve_var (visK (by decide +kernel)))) (ve_var (visK (by decide +kernel)))))) (ve_tup (va_cons (ve_var (visK (by decide +kernel))) (va_cons (ve_var (visK (by decide +kernel))) (va_nil)))))))))
  (vss_one (vs_ret (ve_tup (va_cons (ve_var (visI (by decide +kernel))) (va_cons (ve_var (visI (by decide +kernel))) (va_cons (ve_var (visI (by decide +kernel))) (va_nil))))))))))
theorem e_mended (d0 d1 : D) : startE M_mended [d0, d1] N_mended.length = [.val d0, .bor d1, .emp, .emp, .emp, .emp] := rfl
def t_mended : STt :=
  sSeq (sSet 2 (eLst (aNil)))
  (sSeq (sFor (iSeq (eCall M_circles F_circles (aCons (eOpn opLen (aCons (eVar 0) (aNil))) (aCons (eVar 1) (aNil))))) (gNm 3) (sSeq (sAsg (gTp 2 (gsCons (gNm 4) (gsCons (gNm 5) (gsNil)))) (eCall M_most_had F_most_had (aCons (eVar 0) (aCons (eVar 3) (aNil)))))
  (sDrop (eApp 2 (eTup (aCons (eVar 3) (aCons (eOp2 opIdx (eVar 5) (eC (.int 0))) (aCons (eVar 4) (aNil)))))))))
  (sRet (eCall M_by_paper F_by_paper (aCons (eVar 0) (aCons (eVar 2) (aNil))))))
theorem b_mended {c : Cfg} {k : Nat} (f_circles : FnC (c.lv k) "circles" M_circles F_circles) (f_most_had : FnC (c.lv k) "most_had" M_most_had F_most_had) (f_by_paper : FnC (c.lv k) "by_paper" M_by_paper F_by_paper) (m_len : c.mg "len" = none) : VSs (c.inn k N_mended (defScope s_mended)) (defBody s_mended) t_mended :=
  vss_cons (vs_set (stoI (by decide +kernel)) (ve_lst (va_nil)))
  (vss_cons (vs_for (vi_seq (ve_call f_circles.inn (glI (by decide +kernel)) (va_cons (ve_blt (bltI (u := .builtin "len") m_len (by decide +kernel) (by decide +kernel) (by decide +kernel) (by decide +kernel)) (fun X g => r_len g) len_s (va_cons (ve_var (visI (by decide +kernel))) (va_nil))) (va_cons (ve_var (visI (by decide +kernel))) (va_nil))))) (vg_name (stoI (by decide +kernel))) (vss_cons (vs_asg (vg_tup (vgs_cons (vg_name (stoI (by decide +kernel))) (vgs_cons (vg_name (stoI (by decide +kernel))) (vgs_nil)))) (ve_call f_most_had.inn (glI (by decide +kernel)) (va_cons (ve_var (visI (by decide +kernel))) (va_cons (ve_var (visI (by decide +kernel))) (va_nil)))))
  (vss_one (vs_expr (ve_app (visI (by decide +kernel)) (ve_tup (va_cons (ve_var (visI (by decide +kernel))) (va_cons (ve_idx (ve_var (visI (by decide +kernel))) (ve_int)) (va_cons (ve_var (visI (by decide +kernel))) (va_nil))))))))))
  (vss_one (vs_ret (ve_call f_by_paper.inn (glI (by decide +kernel)) (va_cons (ve_var (visI (by decide +kernel))) (va_cons (ve_var (visI (by decide +kernel))) (va_nil)))))))
theorem e_lattices (d0 : D) : startE M_lattices [d0] N_lattices.length = [.val d0, .emp, .emp, .emp, .emp, .emp, .emp, .emp, .emp, .emp] := rfl
def t_lattices : STt :=
  sSeq (sSet 1 (eLc (iRg1 (aCons (eOp2 opMul (eVar 0) (eVar 0)) (aNil))) (gNm 8) (tYesD) (eOp2 opAdd (eTup (aCons (eC (.str "stay")) (aNil))) (eOpn opDivmod (aCons (eVar 8) (aCons (eVar 0) (aNil))))) [8]))
  (sSeq (sSet 2 (eDix0))
  (sSeq (sSet 3 (eLst (aNil)))
  (sSeq (sFor (iSeq (eVar 1)) (gNm 4) (sFor (iSeq (eVar 1)) (gNm 5) (sSeq (sSet 6 (eLc (iSeq (eLst (aCons (eVar 4) (aCons (eVar 5) (aNil))))) (gNm 9) (tV (eOp2 opNe (eVar 9) (eTup (aCons (eC (.str "stay")) (aCons (eC (.int 0)) (aCons (eC (.int 0)) (aNil))))))) (eVar 9) [9]))
  (sSeq (sSet 7 (eOpn opTuple (aCons (eCall M_made F_made (aCons (eVar 0) (aCons (eVar 6) (aNil)))) (aNil))))
  (sIf (tV (eOp2 (opInX true) (eVar 7) (eVar 2))) (sSeq (sPutX 2 (eVar 7) (eC (.bl true)))
  (sDrop (eApp 3 (eTup (aCons (eVar 6) (aCons (eOpn opList (aCons (eVar 7) (aNil))) (aNil))))))) (sNext))))))
  (sRet (eVar 3)))))
theorem b_lattices {c : Cfg} {k : Nat} (f_made : FnC (c.lv k) "made" M_made F_made) (m_range : c.mg "range" = none) (m_divmod : c.mg "divmod" = none) (m_tuple : c.mg "tuple" = none) (m_list : c.mg "list" = none) : VSs (c.inn k N_lattices (defScope s_lattices)) (defBody s_lattices) t_lattices :=
  vss_cons (vs_setLc (own := [("place", 8)]) (stoI (by decide +kernel)) (by decide +kernel) (vi_rg1 (bltI (u := .type "range") m_range (by decide +kernel) (by decide +kernel) (by decide +kernel) (by decide +kernel)) (va_cons (ve_mul (ve_var (visI (by decide +kernel))) (ve_var (visI (by decide +kernel)))) (va_nil))) (by decide +kernel) (vg_name (stoK (by decide +kernel))) (vts_nil) (ve_add (ve_tup (va_cons (ve_str) (va_nil))) (ve_blt (bltK (u := .builtin "divmod") m_divmod (by decide +kernel) (by decide +kernel) (by decide +kernel) (by decide +kernel)) (fun X g => r_divmod g) divmod_s (va_cons (ve_var (visK (by decide +kernel))) (va_cons (ve_var (visK (by decide +kernel))) (va_nil))))))
  (vss_cons (vs_set (stoI (by decide +kernel)) (ve_dix0))
  (vss_cons (vs_set (stoI (by decide +kernel)) (ve_lst (va_nil)))
  (vss_cons (vs_for (vi_seq (ve_var (visI (by decide +kernel)))) (vg_name (stoI (by decide +kernel))) (vss_one (vs_for (vi_seq (ve_var (visI (by decide +kernel)))) (vg_name (stoI (by decide +kernel))) (vss_cons (vs_setLc (own := [("shove", 9)]) (stoI (by decide +kernel)) (by decide +kernel) (vi_seq (ve_lst (va_cons (ve_var (visI (by decide +kernel))) (va_cons (ve_var (visI (by decide +kernel))) (va_nil))))) (by decide +kernel) (vg_name (stoK (by decide +kernel))) (vts_one (vt_ne (ve_var (visK (by decide +kernel))) (ve_tup (va_cons (ve_str) (va_cons (ve_int) (va_cons (ve_int) (va_nil))))))) (ve_var (visK (by decide +kernel))))
  (vss_cons (vs_set (stoI (by decide +kernel)) (ve_bty (bltI (u := .type "tuple") m_tuple (by decide +kernel) (by decide +kernel) (by decide +kernel) (by decide +kernel)) (fun X g => r_tuple g) tuple_s (va_cons (ve_call f_made.inn (glI (by decide +kernel)) (va_cons (ve_var (visI (by decide +kernel))) (va_cons (ve_var (visI (by decide +kernel))) (va_nil)))) (va_nil))))
  (vss_one (vs_if (vt_notInX (ve_var (visI (by decide +kernel))) (ve_var (visI (by decide +kernel)))) (vss_cons (vs_putX (visI (by decide +kernel)) (ve_bl) (ve_var (visI (by decide +kernel))))
  (vss_one (vs_expr (ve_app (visI (by decide +kernel)) (ve_tup (va_cons (ve_var (visI (by decide +kernel))) (va_cons (ve_bty (bltI (u := .type "list") m_list (by decide +kernel) (by decide +kernel) (by decide +kernel) (by decide +kernel)) (fun X g => r_list g) list_s (va_cons (ve_var (visI (by decide +kernel))) (va_nil))) (va_nil)))))))) (vss_nil))))))))
  (vss_one (vs_ret (ve_var (visI (by decide +kernel))))))))
theorem e_lifts (d0 d1 d2 : D) : startE M_lifts [d0, d1, d2] N_lifts.length = [.val d0, .val d1, .val d2, .emp, .emp, .emp, .emp, .emp, .emp, .emp, .emp, .emp, .emp] := rfl
def t_lifts : STt :=
  sSeq (sSet 3 (eLst (aCons (eLst (aNil)) (aNil))))
  (sSeq (sSet 4 (eLst (aNil)))
  (sSeq (sSet 5 (eDic0 true))
  (sSeq (sFor (iRg1 (aCons (eVar 0) (aNil))) (gNm 6) (sFor (iRg1 (aCons (eVar 0) (aNil))) (gNm 7) (sIf (tV (eOp2 (opIn true) (eTup (aCons (eVar 6) (aCons (eVar 7) (aNil)))) (eVar 5))) (sSeq (sDrop (eApp 4 (eTup (aCons (eVar 6) (aCons (eVar 7) (aNil))))))
  (sFor (iSeq (eVar 2)) (gTp 3 (gsCons (gNm 8) (gsCons (gNm 9) (gsCons (gNm 10) (gsNil))))) (sPut 5 (eTup (aCons (eOp2 opMod (eOp2 opAdd (eVar 6) (eVar 9)) (eVar 0)) (aCons (eOp2 opMod (eOp2 opAdd (eVar 7) (eVar 10)) (eVar 0)) (aNil)))) (eC (.bl true))))) (sNext))))
  (sSeq (sFor (iSeq (eVar 1)) (gNm 8) (sSeq (sSet 11 (eLst (aNil)))
  (sSeq (sFor (iSeq (eVar 3)) (gNm 12) (sDrop (eExt 11 (eLc (iSeq (eVar 4)) (gTp 2 (gsCons (gNm 6) (gsCons (gNm 7) (gsNil)))) (tYesD) (eOp2 opAdd (eVar 12) (eLst (aCons (eTup (aCons (eVar 8) (aCons (eVar 6) (aCons (eVar 7) (aNil))))) (aNil)))) [6, 7]))))
  (sSet 3 (eVar 11)))))
  (sRet (eVar 3))))))
theorem b_lifts {c : Cfg} {k : Nat} (m_range : c.mg "range" = none) : VSs (c.inn k N_lifts (defScope s_lifts)) (defBody s_lifts) t_lifts :=
  vss_cons (vs_set (stoI (by decide +kernel)) (ve_lst (va_cons (ve_lst (va_nil)) (va_nil))))
  (vss_cons (vs_set (stoI (by decide +kernel)) (ve_lst (va_nil)))
  (vss_cons (vs_set (stoI (by decide +kernel)) (ve_dic0T))
  (vss_cons (vs_for (vi_rg1 (bltI (u := .type "range") m_range (by decide +kernel) (by decide +kernel) (by decide +kernel) (by decide +kernel)) (va_cons (ve_var (visI (by decide +kernel))) (va_nil))) (vg_name (stoI (by decide +kernel))) (vss_one (vs_for (vi_rg1 (bltI (u := .type "range") m_range (by decide +kernel) (by decide +kernel) (by decide +kernel) (by decide +kernel)) (va_cons (ve_var (visI (by decide +kernel))) (va_nil))) (vg_name (stoI (by decide +kernel))) (vss_one (vs_if (vt_notin (ve_tup (va_cons (ve_var (visI (by decide +kernel))) (va_cons (ve_var (visI (by decide +kernel))) (va_nil)))) (ve_var (visI (by decide +kernel)))) (vss_cons (vs_expr (ve_app (visI (by decide +kernel)) (ve_tup (va_cons (ve_var (visI (by decide +kernel))) (va_cons (ve_var (visI (by decide +kernel))) (va_nil))))))
  (vss_one (vs_for (vi_seq (ve_var (visI (by decide +kernel)))) (vg_tup (vgs_cons (vg_name (stoI (by decide +kernel))) (vgs_cons (vg_name (stoI (by decide +kernel))) (vgs_cons (vg_name (stoI (by decide +kernel))) (vgs_nil))))) (vss_one (vs_put (visI (by decide +kernel)) (ve_bl) (ve_tup (va_cons (ve_mod (ve_add (ve_var (visI (by decide +kernel))) (ve_var (visI (by decide +kernel)))) (ve_var (visI (by decide +kernel)))) (va_cons (ve_mod (ve_add (ve_var (visI (by decide +kernel))) (ve_var (visI (by decide +kernel)))) (ve_var (visI (by decide +kernel)))) (va_nil))))))))) (vss_nil))))))
  (vss_cons (vs_for (vi_seq (ve_var (visI (by decide +kernel)))) (vg_name (stoI (by decide +kernel))) (vss_cons (vs_set (stoI (by decide +kernel)) (ve_lst (va_nil)))
  (vss_cons (vs_for (vi_seq (ve_var (visI (by decide +kernel)))) (vg_name (stoI (by decide +kernel))) (vss_one (vs_expr (ve_ext (visI (by decide +kernel)) (ve_lc (own := [("down", 6), ("right", 7)]) (vi_seq (ve_var (visI (by decide +kernel)))) (by decide +kernel) (vg_tup (vgs_cons (vg_name (stoK (by decide +kernel))) (vgs_cons (vg_name (stoK (by decide +kernel))) (vgs_nil)))) (vts_nil) (ve_add (ve_var (visK (by decide +kernel))) (ve_lst (va_cons (ve_tup (va_cons (ve_var (visK (by decide +kernel))) (va_cons (ve_var (visK (by decide +kernel))) (va_cons (ve_var (visK (by decide +kernel))) (va_nil))))) (va_nil)))))))))
  (vss_one (vs_set (stoI (by decide +kernel)) (ve_var (visI (by decide +kernel))))))))
  (vss_one (vs_ret (ve_var (visI (by decide +kernel)))))))))
theorem e_divisor (d0 : D) : startE M_divisor [d0] N_divisor.length = [.val d0, .emp, .emp, .emp] := rfl
def t_divisor : STt :=
  sSeq (sSet 1 (eC (.int 0)))
  (sSeq (sFor (iSeq (eVar 0)) (gNm 2) (sSeq (sSet 3 (eVar 2))
  (sWhile (tV (eOp2 opGt (eVar 3) (eC (.int 0)))) (sPar 1 3 (aCons (eVar 3) (aCons (eOp2 opMod (eVar 1) (eVar 3)) (aNil)))))))
  (sRet (eVar 1)))
theorem b_divisor {c : Cfg} {k : Nat} : VSs (c.inn k N_divisor (defScope s_divisor)) (defBody s_divisor) t_divisor :=
  vss_cons (vs_set (stoI (by decide +kernel)) (ve_int))
  (vss_cons (vs_for (vi_seq (ve_var (visI (by decide +kernel)))) (vg_name (stoI (by decide +kernel))) (vss_cons (vs_set (stoI (by decide +kernel)) (ve_var (visI (by decide +kernel))))
  (vss_one (vs_while (vt_gt (ve_var (visI (by decide +kernel))) (ve_int)) (vss_one (vs_par (by show parB N_divisor (defScope s_divisor) _ _ _ _ _ _ _ = true; decide +kernel) (va_cons (ve_var (visI (by decide +kernel))) (va_cons (ve_mod (ve_var (visI (by decide +kernel))) (ve_var (visI (by decide +kernel)))) (va_nil)))))))))
  (vss_one (vs_ret (ve_var (visI (by decide +kernel))))))
theorem e_all_groups (d0 : D) : startE M_all_groups [d0] N_all_groups.length = [.val d0, .emp, .emp, .emp, .emp, .emp, .emp] := rfl
def t_all_groups : STt :=
  sSeq (sSet 1 (eLst (aNil)))
  (sSeq (sFor (iSeq (eCall M_lattices F_lattices (aCons (eVar 0) (aNil)))) (gTp 2 (gsCons (gNm 2) (gsCons (gNm 3) (gsNil)))) (sFor (iEnT (aCons (eC K_HEADS) (aNil))) (gTp 2 (gsCons (gNm 4) (gsCons (gNm 5) (gsNil)))) (sFor (iSeq (eCall M_lifts F_lifts (aCons (eVar 0) (aCons (eVar 5) (aCons (eVar 3) (aNil)))))) (gNm 6) (sDrop (eApp 1 (eTup (aCons (eOp2 opAdd (eVar 2) (eVar 6)) (aCons (eOp2 opIdx (eC K_HEAD_SIZES) (eVar 4)) (aNil)))))))))
  (sRet (eVar 1)))
theorem b_all_groups {c : Cfg} {k : Nat} (f_lattices : FnC (c.lv k) "lattices" M_lattices F_lattices) (f_lifts : FnC (c.lv k) "lifts" M_lifts F_lifts) (g_HEADS : Glb c "HEADS" K_HEADS) (g_HEAD_SIZES : Glb c "HEAD_SIZES" K_HEAD_SIZES) (m_enumerate : c.mg "enumerate" = none) : VSs (c.inn k N_all_groups (defScope s_all_groups)) (defBody s_all_groups) t_all_groups :=
  vss_cons (vs_set (stoI (by decide +kernel)) (ve_lst (va_nil)))
  (vss_cons (vs_for (vi_seq (ve_call f_lattices.inn (glI (by decide +kernel)) (va_cons (ve_var (visI (by decide +kernel))) (va_nil)))) (vg_tup (vgs_cons (vg_name (stoI (by decide +kernel))) (vgs_cons (vg_name (stoI (by decide +kernel))) (vgs_nil)))) (vss_one (vs_for (vi_enT (bltI (u := .type "enumerate") m_enumerate (by decide +kernel) (by decide +kernel) (by decide +kernel) (by decide +kernel)) (va_cons (ve_glb g_HEADS.inn (glI (by decide +kernel)) (by decide)) (va_nil))) (vg_tup (vgs_cons (vg_name (stoI (by decide +kernel))) (vgs_cons (vg_name (stoI (by decide +kernel))) (vgs_nil)))) (vss_one (vs_for (vi_seq (ve_call f_lifts.inn (glI (by decide +kernel)) (va_cons (ve_var (visI (by decide +kernel))) (va_cons (ve_var (visI (by decide +kernel))) (va_cons (ve_var (visI (by decide +kernel))) (va_nil)))))) (vg_name (stoI (by decide +kernel))) (vss_one (vs_expr (ve_app (visI (by decide +kernel)) (ve_tup (va_cons (ve_add (ve_var (visI (by decide +kernel))) (ve_var (visI (by decide +kernel)))) (va_cons (ve_idx (ve_glb g_HEAD_SIZES.inn (glI (by decide +kernel)) (by decide)) (ve_var (visI (by decide +kernel)))) (va_nil))))))))))))
  (vss_one (vs_ret (ve_var (visI (by decide +kernel))))))
theorem e_bettered (d0 d1 : D) : startE M_bettered [d0, d1] N_bettered.length = [.val d0, .val d1, .emp, .emp, .emp, .emp, .emp, .emp, .emp, .emp, .emp] := rfl
def t_bettered : STt :=
  sSeq (sSet 2 (eOpn opLen (aCons (eVar 0) (aNil))))
  (sSeq (sIf (tV (eOp2 opGt (eVar 2) (eC K_LARGEST))) (sRaiseI "TooLarge" "many" (eOp2 opMul (eVar 2) (eVar 2))) (sNext))
  (sSeq (sSet 3 (eTup (aCons (eC (.int 1)) (aCons (eC (.int 0)) (aCons (eLst (aNil)) (aNil))))))
  (sSeq (sFor (iSeq (eCall M_all_groups F_all_groups (aCons (eVar 2) (aNil)))) (gTp 2 (gsCons (gNm 4) (gsCons (gNm 5) (gsNil)))) (sSeq (sSet 6 (eCall M_circles F_circles (aCons (eVar 2) (aCons (eVar 4) (aNil)))))
  (sSeq (sSet 7 (eOp2 opSub (eOp2 opMul (eVar 2) (eVar 2)) (eOpn opSum (aCons (eLc (iSeq (eVar 6)) (gNm 10) (tYesD) (eOp2 opIdx (eCall M_most_had F_most_had (aCons (eVar 0) (aCons (eVar 10) (aNil)))) (eC (.int 0))) [10]) (aNil)))))
  (sSeq (sSet 8 (eOp2 opMul (eVar 5) (eCall M_divisor F_divisor (aCons (eLc (iSeq (eVar 6)) (gNm 10) (tYesD) (eOpn opLen (aCons (eVar 10) (aNil))) [10]) (aNil)))))
  (sIf (tAndD (tV (eOp2 opLe (eVar 7) (eVar 1))) (tOrD (tV (eOp2 opGt (eVar 8) (eOp2 opIdx (eVar 3) (eC (.int 0))))) (tAndD (tV (eOp2 opEq (eVar 8) (eOp2 opIdx (eVar 3) (eC (.int 0))))) (tV (eOp2 opLtA (eVar 7) (eOp2 opIdx (eVar 3) (eC (.int 1)))))))) (sSeq (sSet 9 (eOpn opLen (aCons (eCall M_made F_made (aCons (eVar 2) (aCons (eVar 4) (aNil)))) (aNil))))
  (sIf (tOrD (tV (eOp2 opGt (eVar 9) (eOp2 opIdx (eVar 3) (eC (.int 0))))) (tAndD (tV (eOp2 opEq (eVar 9) (eOp2 opIdx (eVar 3) (eC (.int 0))))) (tV (eOp2 opLtA (eVar 7) (eOp2 opIdx (eVar 3) (eC (.int 1))))))) (sSet 3 (eTup (aCons (eVar 9) (aCons (eVar 7) (aCons (eVar 4) (aNil)))))) (sNext))) (sNext))))))
  (sRet (eTup (aCons (eOp2 opIdx (eVar 3) (eC (.int 2))) (aCons (eOp2 opIdx (eVar 3) (eC (.int 0))) (aCons (eCall M_mended F_mended (aCons (eVar 0) (aCons (eOp2 opIdx (eVar 3) (eC (.int 2))) (aNil)))) (aNil)))))))))
theorem b_bettered {c : Cfg} {k : Nat} (f_all_groups : FnC (c.lv k) "all_groups" M_all_groups F_all_groups) (f_circles : FnC (c.lv k) "circles" M_circles F_circles) (f_most_had : FnC (c.lv k) "most_had" M_most_had F_most_had) (f_divisor : FnC (c.lv k) "divisor" M_divisor F_divisor) (f_made : FnC (c.lv k) "made" M_made F_made) (f_mended : FnC (c.lv k) "mended" M_mended F_mended) (g_LARGEST : Glb c "LARGEST" K_LARGEST) (m_len : c.mg "len" = none) (m_sum : c.mg "sum" = none) (i_TooLarge : XICls c "TooLarge" "many") (hk_lv : 2 ≤ k) : VSs (c.inn k N_bettered (defScope s_bettered)) (defBody s_bettered) t_bettered :=
  vss_cons (vs_set (stoI (by decide +kernel)) (ve_blt (bltI (u := .builtin "len") m_len (by decide +kernel) (by decide +kernel) (by decide +kernel) (by decide +kernel)) (fun X g => r_len g) len_s (va_cons (ve_var (visI (by decide +kernel))) (va_nil))))
  (vss_cons (vs_if (vt_gt (ve_var (visI (by decide +kernel))) (ve_glb g_LARGEST.inn (glI (by decide +kernel)) (by decide))) (vss_one (vs_raiseI i_TooLarge.inn (glI (by decide +kernel)) (by decide) (ve_mul (ve_var (visI (by decide +kernel))) (ve_var (visI (by decide +kernel)))) hk_lv)) (vss_nil))
  (vss_cons (vs_set (stoI (by decide +kernel)) (ve_tup (va_cons (ve_int) (va_cons (ve_int) (va_cons (ve_lst (va_nil)) (va_nil))))))
  (vss_cons (vs_for (vi_seq (ve_call f_all_groups.inn (glI (by decide +kernel)) (va_cons (ve_var (visI (by decide +kernel))) (va_nil)))) (vg_tup (vgs_cons (vg_name (stoI (by decide +kernel))) (vgs_cons (vg_name (stoI (by decide +kernel))) (vgs_nil)))) (vss_cons (vs_set (stoI (by decide +kernel)) (ve_call f_circles.inn (glI (by decide +kernel)) (va_cons (ve_var (visI (by decide +kernel))) (va_cons (ve_var (visI (by decide +kernel))) (va_nil)))))
  (vss_cons (vs_set (stoI (by decide +kernel)) (ve_sub (ve_mul (ve_var (visI (by decide +kernel))) (ve_var (visI (by decide +kernel)))) (ve_blt (bltI (u := .builtin "sum") m_sum (by decide +kernel) (by decide +kernel) (by decide +kernel) (by decide +kernel)) (fun X g => r_sum g) sum_s (va_cons (ve_lc (own := [("some", 10)]) (vi_seq (ve_var (visI (by decide +kernel)))) (by decide +kernel) (vg_name (stoK (by decide +kernel))) (vts_nil) (ve_idx (ve_call f_most_had.blk (glK (by decide +kernel)) (va_cons (ve_var (visK (by decide +kernel))) (va_cons (ve_var (visK (by decide +kernel))) (va_nil)))) (ve_int))) (va_nil)))))
  (vss_cons (vs_set (stoI (by decide +kernel)) (ve_mul (ve_var (visI (by decide +kernel))) (ve_call f_divisor.inn (glI (by decide +kernel)) (va_cons (ve_lc (own := [("some", 10)]) (vi_seq (ve_var (visI (by decide +kernel)))) (by decide +kernel) (vg_name (stoK (by decide +kernel))) (vts_nil) (ve_blt (bltK (u := .builtin "len") m_len (by decide +kernel) (by decide +kernel) (by decide +kernel) (by decide +kernel)) (fun X g => r_len g) len_s (va_cons (ve_var (visK (by decide +kernel))) (va_nil)))) (va_nil)))))
  (vss_one (vs_if (vw_vt (vw_and (vt_le (ve_var (visI (by decide +kernel))) (ve_var (visI (by decide +kernel)))) (vw_and1 (vw_vt (vw_or (vt_gt (ve_var (visI (by decide +kernel))) (ve_idx (ve_var (visI (by decide +kernel))) (ve_int))) (vw_or1 (vw_vt (vw_and (vt_eq (ve_var (visI (by decide +kernel))) (ve_idx (ve_var (visI (by decide +kernel))) (ve_int))) (vw_and1 (vt_ltA (ve_var (visI (by decide +kernel))) (ve_idx (ve_var (visI (by decide +kernel))) (ve_int)))))))))))) (vss_cons (vs_set (stoI (by decide +kernel)) (ve_blt (bltI (u := .builtin "len") m_len (by decide +kernel) (by decide +kernel) (by decide +kernel) (by decide +kernel)) (fun X g => r_len g) len_s (va_cons (ve_call f_made.inn (glI (by decide +kernel)) (va_cons (ve_var (visI (by decide +kernel))) (va_cons (ve_var (visI (by decide +kernel))) (va_nil)))) (va_nil))))
  (vss_one (vs_if (vw_vt (vw_or (vt_gt (ve_var (visI (by decide +kernel))) (ve_idx (ve_var (visI (by decide +kernel))) (ve_int))) (vw_or1 (vw_vt (vw_and (vt_eq (ve_var (visI (by decide +kernel))) (ve_idx (ve_var (visI (by decide +kernel))) (ve_int))) (vw_and1 (vt_ltA (ve_var (visI (by decide +kernel))) (ve_idx (ve_var (visI (by decide +kernel))) (ve_int))))))))) (vss_one (vs_set (stoI (by decide +kernel)) (ve_tup (va_cons (ve_var (visI (by decide +kernel))) (va_cons (ve_var (visI (by decide +kernel))) (va_cons (ve_var (visI (by decide +kernel))) (va_nil))))))) (vss_nil)))) (vss_nil)))))))
  (vss_one (vs_ret (ve_tup (va_cons (ve_idx (ve_var (visI (by decide +kernel))) (ve_int)) (va_cons (ve_idx (ve_var (visI (by decide +kernel))) (ve_int)) (va_cons (ve_call f_mended.inn (glI (by decide +kernel)) (va_cons (ve_var (visI (by decide +kernel))) (va_cons (ve_idx (ve_var (visI (by decide +kernel))) (ve_int)) (va_nil)))) (va_nil))))))))))
theorem e_L_cell_at (d0 d1 : D) : startE M_L_cell_at [d0, d1] N_L_cell_at.length = [.bor d0, .val d1] := rfl
def t_L_cell_at : STt :=
  sSeq (sIf (tV (eOp2 opLtA (eVar 1) (eOpn opLen (aCons (eVar 0) (aNil))))) (sRet (eOp2 opIdx (eVar 0) (eVar 1))) (sNext))
  (sRet (eC (.int 0)))
theorem b_L_cell_at {c : Cfg} {k : Nat} (m_len : c.mg "len" = none) : VSs (c.inn k N_L_cell_at (defScope s_L_cell_at)) (defBody s_L_cell_at) t_L_cell_at :=
  vss_cons (vs_if (vt_ltA (ve_var (visI (by decide +kernel))) (ve_blt (bltI (u := .builtin "len") m_len (by decide +kernel) (by decide +kernel) (by decide +kernel) (by decide +kernel)) (fun X g => r_len g) len_s (va_cons (ve_var (visI (by decide +kernel))) (va_nil)))) (vss_one (vs_ret (ve_idx (ve_var (visI (by decide +kernel))) (ve_var (visI (by decide +kernel)))))) (vss_nil))
  (vss_one (vs_ret (ve_int)))
theorem e_L_whole (d0 : D) : startE M_L_whole [d0] N_L_whole.length = [.val d0] := rfl
def t_L_whole : STt :=
  sRet (eAnd (eOpn opIsi (aCons (eVar 0) (aCons (eC (.ty "int")) (aNil)))) (eNot (eOpn opIsi (aCons (eVar 0) (aCons (eC (.ty "bool")) (aNil))))))
theorem b_L_whole {c : Cfg} {k : Nat} (m_int : c.mg "int" = none) (m_isinstance : c.mg "isinstance" = none) (m_bool : c.mg "bool" = none) : VSs (c.inn k N_L_whole (defScope s_L_whole)) (defBody s_L_whole) t_L_whole :=
  vss_one (vs_ret (ve_and (ve_blt (bltI (u := .builtin "isinstance") m_isinstance (by decide +kernel) (by decide +kernel) (by decide +kernel) (by decide +kernel)) (fun X g => by rw [← g.K]; exact call_isiD) isi_s (va_cons (ve_var (visI (by decide +kernel))) (va_cons (ve_type (bltI (u := .type "int") m_int (by decide +kernel) (by decide +kernel) (by decide +kernel) (by decide +kernel))) (va_nil)))) (ve_one (ve_not (ve_blt (bltI (u := .builtin "isinstance") m_isinstance (by decide +kernel) (by decide +kernel) (by decide +kernel) (by decide +kernel)) (fun X g => by rw [← g.K]; exact call_isiD) isi_s (va_cons (ve_var (visI (by decide +kernel))) (va_cons (ve_type (bltI (u := .type "bool") m_bool (by decide +kernel) (by decide +kernel) (by decide +kernel) (by decide +kernel))) (va_nil))))))))
theorem e_L_mixed (d0 d1 : D) : startE M_L_mixed [d0, d1] N_L_mixed.length = [.val d0, .val d1] := rfl
def t_L_mixed : STt :=
  sRet (eOp2 opMod (eOp2 opMul (eOp2 opAdd (eOp2 opMod (eVar 0) (eC (.int 2147483647))) (eC (.int 17))) (eOp2 opAdd (eC (.int 48271)) (eOp2 opMul (eOp2 opMul (eC (.int 2)) (eVar 1)) (eVar 1)))) (eC (.int 2147483629)))
theorem b_L_mixed {c : Cfg} {k : Nat} : VSs (c.inn k N_L_mixed (defScope s_L_mixed)) (defBody s_L_mixed) t_L_mixed :=
  vss_one (vs_ret (ve_mod (ve_mul (ve_add (ve_mod (ve_var (visI (by decide +kernel))) (ve_int)) (ve_int)) (ve_add (ve_int) (ve_mul (ve_mul (ve_int) (ve_var (visI (by decide +kernel)))) (ve_var (visI (by decide +kernel)))))) (ve_int)))
theorem e_L_led (d0 d1 d2 : D) : startE M_L_led [d0, d1, d2] N_L_led.length = [.val d0, .val d1, .val d2, .emp, .emp, .emp, .emp, .emp] := rfl
def t_L_led : STt :=
  sSeq (sAsg (gTp 2 (gsCons (gNm 3) (gsCons (gNm 4) (gsNil)))) (eVar 2))
  (sSeq (sAsg (gTp 3 (gsCons (gNm 5) (gsCons (gNm 6) (gsCons (gNm 7) (gsNil))))) (eVar 1))
  (sSeq (sIf (tV (eOp2 (opIn false) (eVar 5) (eTup (aCons (eC (.str "turn")) (aCons (eC (.str "back")) (aCons (eC (.str "cross")) (aCons (eC (.str "other")) (aNil)))))))) (sPar 3 4 (aCons (eVar 4) (aCons (eVar 3) (aNil)))) (sNext))
  (sSeq (sIf (tV (eOp2 (opIn false) (eVar 5) (eTup (aCons (eC (.str "half")) (aCons (eC (.str "flip")) (aCons (eC (.str "back")) (aCons (eC (.str "other")) (aNil)))))))) (sSet 3 (eOp2 opSub (eC (.int 0)) (eVar 3))) (sNext))
  (sSeq (sIf (tV (eOp2 (opIn false) (eVar 5) (eTup (aCons (eC (.str "half")) (aCons (eC (.str "side")) (aCons (eC (.str "turn")) (aCons (eC (.str "other")) (aNil)))))))) (sSet 4 (eOp2 opSub (eC (.int 0)) (eVar 4))) (sNext))
  (sRet (eTup (aCons (eOp2 opMod (eOp2 opAdd (eVar 3) (eVar 6)) (eVar 0)) (aCons (eOp2 opMod (eOp2 opAdd (eVar 4) (eVar 7)) (eVar 0)) (aNil)))))))))
theorem b_L_led {c : Cfg} {k : Nat} : VSs (c.inn k N_L_led (defScope s_L_led)) (defBody s_L_led) t_L_led :=
  vss_cons (vs_asg (vg_tup (vgs_cons (vg_name (stoI (by decide +kernel))) (vgs_cons (vg_name (stoI (by decide +kernel))) (vgs_nil)))) (ve_var (visI (by decide +kernel))))
  (vss_cons (vs_asg (vg_tup (vgs_cons (vg_name (stoI (by decide +kernel))) (vgs_cons (vg_name (stoI (by decide +kernel))) (vgs_cons (vg_name (stoI (by decide +kernel))) (vgs_nil))))) (ve_var (visI (by decide +kernel))))
  (vss_cons (vs_if (vt_in (ve_var (visI (by decide +kernel))) (ve_tup (va_cons (ve_str) (va_cons (ve_str) (va_cons (ve_str) (va_cons (ve_str) (va_nil))))))) (vss_one (vs_par (by show parB N_L_led (defScope s_L_led) _ _ _ _ _ _ _ = true; decide +kernel) (va_cons (ve_var (visI (by decide +kernel))) (va_cons (ve_var (visI (by decide +kernel))) (va_nil))))) (vss_nil))
  (vss_cons (vs_if (vt_in (ve_var (visI (by decide +kernel))) (ve_tup (va_cons (ve_str) (va_cons (ve_str) (va_cons (ve_str) (va_cons (ve_str) (va_nil))))))) (vss_one (vs_set (stoI (by decide +kernel)) (ve_sub (ve_int) (ve_var (visI (by decide +kernel)))))) (vss_nil))
  (vss_cons (vs_if (vt_in (ve_var (visI (by decide +kernel))) (ve_tup (va_cons (ve_str) (va_cons (ve_str) (va_cons (ve_str) (va_cons (ve_str) (va_nil))))))) (vss_one (vs_set (stoI (by decide +kernel)) (ve_sub (ve_int) (ve_var (visI (by decide +kernel)))))) (vss_nil))
  (vss_one (vs_ret (ve_tup (va_cons (ve_mod (ve_add (ve_var (visI (by decide +kernel))) (ve_var (visI (by decide +kernel)))) (ve_var (visI (by decide +kernel)))) (va_cons (ve_mod (ve_add (ve_var (visI (by decide +kernel))) (ve_var (visI (by decide +kernel)))) (ve_var (visI (by decide +kernel)))) (va_nil))))))))))
theorem e_L_moved (d0 d1 : D) : startE M_L_moved [d0, d1] N_L_moved.length = [.val d0, .val d1, .emp, .emp, .emp, .emp] := rfl
def t_L_moved : STt :=
  sSeq (sSet 2 (eOpn opLen (aCons (eVar 0) (aNil))))
  (sSeq (sSet 3 (eDic0 true))
  (sSeq (sFor (iRg1 (aCons (eVar 2) (aNil))) (gNm 4) (sFor (iRg1 (aCons (eVar 2) (aNil))) (gNm 5) (sPut 3 (eCall M_L_led F_L_led (aCons (eVar 2) (aCons (eVar 1) (aCons (eTup (aCons (eVar 4) (aCons (eVar 5) (aNil)))) (aNil))))) (eOp2 opIdx (eOp2 opIdx (eVar 0) (eVar 4)) (eVar 5)))))
  (sRet (eOpn opTuple (aCons (eLc (iRg1 (aCons (eVar 2) (aNil))) (gNm 4) (tYesD) (eMth "str" opJoin (eC (.str "")) (aCons (eLc (iRg1 (aCons (eVar 2) (aNil))) (gNm 5) (tYesD) (eOp2 opIdx (eVar 3) (eTup (aCons (eVar 4) (aCons (eVar 5) (aNil))))) [5]) (aNil))) [4]) (aNil))))))
theorem b_L_moved {c : Cfg} {k : Nat} (f_L_led : FnC (c.lv k) "_law_led" M_L_led F_L_led) (m_len : c.mg "len" = none) (m_range : c.mg "range" = none) (m_tuple : c.mg "tuple" = none) : VSs (c.inn k N_L_moved (defScope s_L_moved)) (defBody s_L_moved) t_L_moved :=
  vss_cons (vs_set (stoI (by decide +kernel)) (ve_blt (bltI (u := .builtin "len") m_len (by decide +kernel) (by decide +kernel) (by decide +kernel) (by decide +kernel)) (fun X g => r_len g) len_s (va_cons (ve_var (visI (by decide +kernel))) (va_nil))))
  (vss_cons (vs_set (stoI (by decide +kernel)) (ve_dic0T))
  (vss_cons (vs_for (vi_rg1 (bltI (u := .type "range") m_range (by decide +kernel) (by decide +kernel) (by decide +kernel) (by decide +kernel)) (va_cons (ve_var (visI (by decide +kernel))) (va_nil))) (vg_name (stoI (by decide +kernel))) (vss_one (vs_for (vi_rg1 (bltI (u := .type "range") m_range (by decide +kernel) (by decide +kernel) (by decide +kernel) (by decide +kernel)) (va_cons (ve_var (visI (by decide +kernel))) (va_nil))) (vg_name (stoI (by decide +kernel))) (vss_one (vs_put (visI (by decide +kernel)) (ve_idx (ve_idx (ve_var (visI (by decide +kernel))) (ve_var (visI (by decide +kernel)))) (ve_var (visI (by decide +kernel)))) (ve_call f_L_led.inn (glI (by decide +kernel)) (va_cons (ve_var (visI (by decide +kernel))) (va_cons (ve_var (visI (by decide +kernel))) (va_cons (ve_tup (va_cons (ve_var (visI (by decide +kernel))) (va_cons (ve_var (visI (by decide +kernel))) (va_nil)))) (va_nil))))))))))
  (vss_one (vs_ret (ve_bty (bltI (u := .type "tuple") m_tuple (by decide +kernel) (by decide +kernel) (by decide +kernel) (by decide +kernel)) (fun X g => r_tuple g) tuple_s (va_cons (ve_lc (own := [("_law_r", 4)]) (vi_rg1 (bltI (u := .type "range") m_range (by decide +kernel) (by decide +kernel) (by decide +kernel) (by decide +kernel)) (va_cons (ve_var (visI (by decide +kernel))) (va_nil))) (by decide +kernel) (vg_name (stoK (by decide +kernel))) (vts_nil) (ve_mth PySem.F.plainAttrs_str PySem.F.slot_str_join PySem.F.type_str_join (fun X g => r_join g) join_s (ve_str) (va_cons (ve_lcK (own := [("_law_c", 5)]) (vi_rg1 (bltK (u := .type "range") m_range (by decide +kernel) (by decide +kernel) (by decide +kernel) (by decide +kernel)) (va_cons (ve_var (visK (by decide +kernel))) (va_nil))) (by decide +kernel) (vg_name (stoK2 (by decide +kernel))) (vts_nil) (ve_idx (ve_var (visK2 (by decide +kernel))) (ve_tup (va_cons (ve_var (visK2 (by decide +kernel))) (va_cons (ve_var (visK2 (by decide +kernel))) (va_nil)))))) (va_nil)))) (va_nil)))))))
theorem e_L_all (d0 : D) : startE M_L_all [d0] N_L_all.length = [.val d0, .emp, .emp, .emp, .emp] := rfl
def t_L_all : STt :=
  sSeq (sSet 1 (eLst (aNil)))
  (sSeq (sFor (iSeq (eLst (aCons (eC (.str "stay")) (aCons (eC (.str "turn")) (aCons (eC (.str "half")) (aCons (eC (.str "back")) (aCons (eC (.str "side")) (aCons (eC (.str "flip")) (aCons (eC (.str "cross")) (aCons (eC (.str "other")) (aNil))))))))))) (gNm 2) (sFor (iRg1 (aCons (eVar 0) (aNil))) (gNm 3) (sFor (iRg1 (aCons (eVar 0) (aNil))) (gNm 4) (sDrop (eApp 1 (eTup (aCons (eVar 2) (aCons (eVar 3) (aCons (eVar 4) (aNil))))))))))
  (sRet (eVar 1)))
theorem b_L_all {c : Cfg} {k : Nat} (m_range : c.mg "range" = none) : VSs (c.inn k N_L_all (defScope s_L_all)) (defBody s_L_all) t_L_all :=
  vss_cons (vs_set (stoI (by decide +kernel)) (ve_lst (va_nil)))
  (vss_cons (vs_for (vi_seq (ve_lst (va_cons (ve_str) (va_cons (ve_str) (va_cons (ve_str) (va_cons (ve_str) (va_cons (ve_str) (va_cons (ve_str) (va_cons (ve_str) (va_cons (ve_str) (va_nil))))))))))) (vg_name (stoI (by decide +kernel))) (vss_one (vs_for (vi_rg1 (bltI (u := .type "range") m_range (by decide +kernel) (by decide +kernel) (by decide +kernel) (by decide +kernel)) (va_cons (ve_var (visI (by decide +kernel))) (va_nil))) (vg_name (stoI (by decide +kernel))) (vss_one (vs_for (vi_rg1 (bltI (u := .type "range") m_range (by decide +kernel) (by decide +kernel) (by decide +kernel) (by decide +kernel)) (va_cons (ve_var (visI (by decide +kernel))) (va_nil))) (vg_name (stoI (by decide +kernel))) (vss_one (vs_expr (ve_app (visI (by decide +kernel)) (ve_tup (va_cons (ve_var (visI (by decide +kernel))) (va_cons (ve_var (visI (by decide +kernel))) (va_cons (ve_var (visI (by decide +kernel))) (va_nil)))))))))))))
  (vss_one (vs_ret (ve_var (visI (by decide +kernel))))))
theorem e_L_movement (d0 d1 : D) : startE M_L_movement [d0, d1] N_L_movement.length = [.val d0, .val d1] := rfl
def t_L_movement : STt :=
  sRet (eOp2 opIdx (eCall M_L_all F_L_all (aCons (eVar 0) (aNil))) (eOp2 opMod (eVar 1) (eOp2 opMul (eOp2 opMul (eC (.int 8)) (eVar 0)) (eVar 0))))
theorem b_L_movement {c : Cfg} {k : Nat} (f_L_all : FnC (c.lv k) "_law_all" M_L_all F_L_all) : VSs (c.inn k N_L_movement (defScope s_L_movement)) (defBody s_L_movement) t_L_movement :=
  vss_one (vs_ret (ve_idx (ve_call f_L_all.inn (glI (by decide +kernel)) (va_cons (ve_var (visI (by decide +kernel))) (va_nil))) (ve_mod (ve_var (visI (by decide +kernel))) (ve_mul (ve_mul (ve_int) (ve_var (visI (by decide +kernel)))) (ve_var (visI (by decide +kernel)))))))
theorem e_L_is_movement (d0 d1 : D) : startE M_L_is_movement [d0, d1] N_L_is_movement.length = [.val d0, .val d1] := rfl
def t_L_is_movement : STt :=
  sSeq (sIf (tOrD (tNotD (tV (eOpn opIsi (aCons (eVar 1) (aCons (eC (.ty "tuple")) (aNil)))))) (tOrD (tV (eOp2 opNe (eOpn opLen (aCons (eVar 1) (aNil))) (eC (.int 3)))) (tOrD (tNotD (tV (eCall M_L_whole F_L_whole (aCons (eOp2 opIdx (eVar 1) (eC (.int 1))) (aNil))))) (tNotD (tV (eCall M_L_whole F_L_whole (aCons (eOp2 opIdx (eVar 1) (eC (.int 2))) (aNil)))))))) (sRet (eC (.bl false))) (sNext))
  (sRet (eOp2 (opIn false) (eVar 1) (eCall M_L_all F_L_all (aCons (eVar 0) (aNil)))))
theorem b_L_is_movement {c : Cfg} {k : Nat} (f_L_whole : FnC (c.lv k) "_law_whole" M_L_whole F_L_whole) (f_L_all : FnC (c.lv k) "_law_all" M_L_all F_L_all) (m_tuple : c.mg "tuple" = none) (m_isinstance : c.mg "isinstance" = none) (m_len : c.mg "len" = none) : VSs (c.inn k N_L_is_movement (defScope s_L_is_movement)) (defBody s_L_is_movement) t_L_is_movement :=
  vss_cons (vs_if (vw_vt (vw_or (vt_not (vt_val (ve_blt (bltI (u := .builtin "isinstance") m_isinstance (by decide +kernel) (by decide +kernel) (by decide +kernel) (by decide +kernel)) (fun X g => by rw [← g.K]; exact call_isiD) isi_s (va_cons (ve_var (visI (by decide +kernel))) (va_cons (ve_type (bltI (u := .type "tuple") m_tuple (by decide +kernel) (by decide +kernel) (by decide +kernel) (by decide +kernel))) (va_nil)))))) (vw_or (vt_ne (ve_blt (bltI (u := .builtin "len") m_len (by decide +kernel) (by decide +kernel) (by decide +kernel) (by decide +kernel)) (fun X g => r_len g) len_s (va_cons (ve_var (visI (by decide +kernel))) (va_nil))) (ve_int)) (vw_or (vt_not (vt_val (ve_call f_L_whole.inn (glI (by decide +kernel)) (va_cons (ve_idx (ve_var (visI (by decide +kernel))) (ve_int)) (va_nil))))) (vw_or1 (vt_not (vt_val (ve_call f_L_whole.inn (glI (by decide +kernel)) (va_cons (ve_idx (ve_var (visI (by decide +kernel))) (ve_int)) (va_nil)))))))))) (vss_one (vs_ret (ve_bl))) (vss_nil))
  (vss_one (vs_ret (ve_in (ve_var (visI (by decide +kernel))) (ve_call f_L_all.inn (glI (by decide +kernel)) (va_cons (ve_var (visI (by decide +kernel))) (va_nil))))))
theorem e_L_letters (d0 d1 : D) : startE M_L_letters [d0, d1] N_L_letters.length = [.val d0, .val d1, .emp, .emp] := rfl
def t_L_letters : STt :=
  sSeq (sSet 2 (eC (.str "abcdefghijklmnopqrstuvwxyz")))
  (sRet (eLc (iRg1 (aCons (eVar 1) (aNil))) (gNm 3) (tYesD) (eOp2 opIdx (eVar 2) (eOp2 opMod (eOp2 opAdd (eVar 0) (eOp2 opMul (eC (.int 7)) (eVar 3))) (eC (.int 26)))) [3]))
theorem b_L_letters {c : Cfg} {k : Nat} (m_range : c.mg "range" = none) : VSs (c.inn k N_L_letters (defScope s_L_letters)) (defBody s_L_letters) t_L_letters :=
  vss_cons (vs_set (stoI (by decide +kernel)) (ve_str))
  (vss_one (vs_ret (ve_lc (own := [("_law_k", 3)]) (vi_rg1 (bltI (u := .type "range") m_range (by decide +kernel) (by decide +kernel) (by decide +kernel) (by decide +kernel)) (va_cons (ve_var (visI (by decide +kernel))) (va_nil))) (by decide +kernel) (vg_name (stoK (by decide +kernel))) (vts_nil) (ve_idx (ve_var (visK (by decide +kernel))) (ve_mod (ve_add (ve_var (visK (by decide +kernel))) (ve_mul (ve_int) (ve_var (visK (by decide +kernel))))) (ve_int))))))
theorem e_L_carpet (d0 d1 d2 d3 : D) : startE M_L_carpet [d0, d1, d2, d3] N_L_carpet.length = [.bor d0, .val d1, .bor d2, .val d3, .emp, .emp, .emp, .emp, .emp] := rfl
def t_L_carpet : STt :=
  sSeq (sSet 4 (eLst (aNil)))
  (sSeq (sFor (iRg1 (aCons (eVar 1) (aNil))) (gNm 5) (sSeq (sSet 6 (eC (.str "")))
  (sSeq (sFor (iRg1 (aCons (eVar 1) (aNil))) (gNm 7) (sSeq (sSet 8 (eOp2 opAdd (eOp2 opMul (eVar 5) (eVar 1)) (eVar 7)))
  (sSeq (sIf (tV (eOp2 opEq (eOp2 opMod (eVar 3) (eC (.int 4))) (eC (.int 1)))) (sSet 8 (eVar 7)) (sNext))
  (sSeq (sIf (tV (eOp2 opEq (eOp2 opMod (eVar 3) (eC (.int 4))) (eC (.int 2)))) (sSet 8 (eOp2 opMod (eOp2 opAdd (eVar 5) (eVar 7)) (eVar 1))) (sNext))
  (sSeq (sIf (tV (eOp2 opEq (eOp2 opMod (eVar 3) (eC (.int 4))) (eC (.int 3)))) (sSet 8 (eOp2 opAdd (eOpn opMin2 (aCons (eVar 5) (aCons (eOp2 opSub (eOp2 opSub (eVar 1) (eC (.int 1))) (eVar 5)) (aNil)))) (eOp2 opMul (eVar 1) (eOpn opMin2 (aCons (eVar 7) (aCons (eOp2 opSub (eOp2 opSub (eVar 1) (eC (.int 1))) (eVar 7)) (aNil))))))) (sNext))
  (sSet 6 (eOp2 opAdd (eVar 6) (eOp2 opIdx (eVar 2) (eOp2 opMod (eCall M_L_mixed F_L_mixed (aCons (eOp2 opIdx (eVar 0) (eOp2 opMod (eVar 8) (eOpn opLen (aCons (eVar 0) (aNil))))) (aCons (eVar 8) (aNil)))) (eOpn opLen (aCons (eVar 2) (aNil))))))))))))
  (sDrop (eApp 4 (eVar 6))))))
  (sRet (eOpn opTuple (aCons (eVar 4) (aNil)))))
theorem b_L_carpet {c : Cfg} {k : Nat} (f_L_mixed : FnC (c.lv k) "_law_mixed" M_L_mixed F_L_mixed) (m_range : c.mg "range" = none) (m_min : c.mg "min" = none) (m_len : c.mg "len" = none) (m_tuple : c.mg "tuple" = none) : VSs (c.inn k N_L_carpet (defScope s_L_carpet)) (defBody s_L_carpet) t_L_carpet :=
  vss_cons (vs_set (stoI (by decide +kernel)) (ve_lst (va_nil)))
  (vss_cons (vs_for (vi_rg1 (bltI (u := .type "range") m_range (by decide +kernel) (by decide +kernel) (by decide +kernel) (by decide +kernel)) (va_cons (ve_var (visI (by decide +kernel))) (va_nil))) (vg_name (stoI (by decide +kernel))) (vss_cons (vs_set (stoI (by decide +kernel)) (ve_str))
  (vss_cons (vs_for (vi_rg1 (bltI (u := .type "range") m_range (by decide +kernel) (by decide +kernel) (by decide +kernel) (by decide +kernel)) (va_cons (ve_var (visI (by decide +kernel))) (va_nil))) (vg_name (stoI (by decide +kernel))) (vss_cons (vs_set (stoI (by decide +kernel)) (ve_add (ve_mul (ve_var (visI (by decide +kernel))) (ve_var (visI (by decide +kernel)))) (ve_var (visI (by decide +kernel)))))
  (vss_cons (vs_if (vt_eq (ve_mod (ve_var (visI (by decide +kernel))) (ve_int)) (ve_int)) (vss_one (vs_set (stoI (by decide +kernel)) (ve_var (visI (by decide +kernel))))) (vss_nil))
  (vss_cons (vs_if (vt_eq (ve_mod (ve_var (visI (by decide +kernel))) (ve_int)) (ve_int)) (vss_one (vs_set (stoI (by decide +kernel)) (ve_mod (ve_add (ve_var (visI (by decide +kernel))) (ve_var (visI (by decide +kernel)))) (ve_var (visI (by decide +kernel)))))) (vss_nil))
  (vss_cons (vs_if (vt_eq (ve_mod (ve_var (visI (by decide +kernel))) (ve_int)) (ve_int)) (vss_one (vs_set (stoI (by decide +kernel)) (ve_add (ve_blt (bltI (u := .builtin "min") m_min (by decide +kernel) (by decide +kernel) (by decide +kernel) (by decide +kernel)) (fun X g => call_min2 g.calm) min2_s (va_cons (ve_var (visI (by decide +kernel))) (va_cons (ve_sub (ve_sub (ve_var (visI (by decide +kernel))) (ve_int)) (ve_var (visI (by decide +kernel)))) (va_nil)))) (ve_mul (ve_var (visI (by decide +kernel))) (ve_blt (bltI (u := .builtin "min") m_min (by decide +kernel) (by decide +kernel) (by decide +kernel) (by decide +kernel)) (fun X g => call_min2 g.calm) min2_s (va_cons (ve_var (visI (by decide +kernel))) (va_cons (ve_sub (ve_sub (ve_var (visI (by decide +kernel))) (ve_int)) (ve_var (visI (by decide +kernel)))) (va_nil)))))))) (vss_nil))
  (vss_one (vs_set (stoI (by decide +kernel)) (ve_add (ve_var (visI (by decide +kernel))) (ve_idx (ve_var (visI (by decide +kernel))) (ve_mod (ve_call f_L_mixed.inn (glI (by decide +kernel)) (va_cons (ve_idx (ve_var (visI (by decide +kernel))) (ve_mod (ve_var (visI (by decide +kernel))) (ve_blt (bltI (u := .builtin "len") m_len (by decide +kernel) (by decide +kernel) (by decide +kernel) (by decide +kernel)) (fun X g => r_len g) len_s (va_cons (ve_var (visI (by decide +kernel))) (va_nil))))) (va_cons (ve_var (visI (by decide +kernel))) (va_nil)))) (ve_blt (bltI (u := .builtin "len") m_len (by decide +kernel) (by decide +kernel) (by decide +kernel) (by decide +kernel)) (fun X g => r_len g) len_s (va_cons (ve_var (visI (by decide +kernel))) (va_nil)))))))))))))
  (vss_one (vs_expr (ve_app (visI (by decide +kernel)) (ve_var (visI (by decide +kernel)))))))))
  (vss_one (vs_ret (ve_bty (bltI (u := .type "tuple") m_tuple (by decide +kernel) (by decide +kernel) (by decide +kernel) (by decide +kernel)) (fun X g => r_tuple g) tuple_s (va_cons (ve_var (visI (by decide +kernel))) (va_nil))))))
theorem e_L_circles (d0 d1 : D) : startE M_L_circles [d0, d1] N_L_circles.length = [.val d0, .val d1, .emp, .emp, .emp, .emp, .emp, .emp, .emp, .emp] := rfl
def t_L_circles : STt :=
  sSeq (sSet 2 (eDic0 true))
  (sSeq (sSet 3 (eLst (aNil)))
  (sSeq (sFor (iRg1 (aCons (eOp2 opMul (eVar 0) (eVar 0)) (aNil))) (gNm 4) (sSeq (sSet 5 (eOpn opDivmod (aCons (eVar 4) (aCons (eVar 0) (aNil)))))
  (sIf (tV (eOp2 (opIn true) (eVar 5) (eVar 2))) (sSeq (sSet 6 (eLst (aCons (eVar 5) (aNil))))
  (sSeq (sPut 2 (eVar 5) (eC (.bl true)))
  (sSeq (sSet 7 (eC (.int 0)))
  (sSeq (sWhile (tV (eOp2 opLtA (eVar 7) (eOpn opLen (aCons (eVar 6) (aNil))))) (sSeq (sFor (iSeq (eVar 1)) (gNm 8) (sSeq (sSet 9 (eCall M_L_led F_L_led (aCons (eVar 0) (aCons (eVar 8) (aCons (eOp2 opIdx (eVar 6) (eVar 7)) (aNil))))))
  (sIf (tV (eOp2 (opIn true) (eVar 9) (eVar 2))) (sSeq (sPut 2 (eVar 9) (eC (.bl true)))
  (sDrop (eApp 6 (eVar 9)))) (sNext))))
  (sSet 7 (eOp2 opAdd (eVar 7) (eC (.int 1))))))
  (sDrop (eApp 3 (eOpn opSorted (aCons (eVar 6) (aNil))))))))) (sNext))))
  (sRet (eOpn opSorted (aCons (eVar 3) (aNil))))))
theorem b_L_circles {c : Cfg} {k : Nat} (f_L_led : FnC (c.lv k) "_law_led" M_L_led F_L_led) (m_range : c.mg "range" = none) (m_divmod : c.mg "divmod" = none) (m_len : c.mg "len" = none) (m_sorted : c.mg "sorted" = none) : VSs (c.inn k N_L_circles (defScope s_L_circles)) (defBody s_L_circles) t_L_circles :=
  vss_cons (vs_set (stoI (by decide +kernel)) (ve_dic0T))
  (vss_cons (vs_set (stoI (by decide +kernel)) (ve_lst (va_nil)))
  (vss_cons (vs_for (vi_rg1 (bltI (u := .type "range") m_range (by decide +kernel) (by decide +kernel) (by decide +kernel) (by decide +kernel)) (va_cons (ve_mul (ve_var (visI (by decide +kernel))) (ve_var (visI (by decide +kernel)))) (va_nil))) (vg_name (stoI (by decide +kernel))) (vss_cons (vs_set (stoI (by decide +kernel)) (ve_blt (bltI (u := .builtin "divmod") m_divmod (by decide +kernel) (by decide +kernel) (by decide +kernel) (by decide +kernel)) (fun X g => r_divmod g) divmod_s (va_cons (ve_var (visI (by decide +kernel))) (va_cons (ve_var (visI (by decide +kernel))) (va_nil)))))
  (vss_one (vs_if (vt_notin (ve_var (visI (by decide +kernel))) (ve_var (visI (by decide +kernel)))) (vss_cons (vs_set (stoI (by decide +kernel)) (ve_lst (va_cons (ve_var (visI (by decide +kernel))) (va_nil))))
  (vss_cons (vs_put (visI (by decide +kernel)) (ve_bl) (ve_var (visI (by decide +kernel))))
  (vss_cons (vs_set (stoI (by decide +kernel)) (ve_int))
  (vss_cons (vs_while (vt_ltA (ve_var (visI (by decide +kernel))) (ve_blt (bltI (u := .builtin "len") m_len (by decide +kernel) (by decide +kernel) (by decide +kernel) (by decide +kernel)) (fun X g => r_len g) len_s (va_cons (ve_var (visI (by decide +kernel))) (va_nil)))) (vss_cons (vs_for (vi_seq (ve_var (visI (by decide +kernel)))) (vg_name (stoI (by decide +kernel))) (vss_cons (vs_set (stoI (by decide +kernel)) (ve_call f_L_led.inn (glI (by decide +kernel)) (va_cons (ve_var (visI (by decide +kernel))) (va_cons (ve_var (visI (by decide +kernel))) (va_cons (ve_idx (ve_var (visI (by decide +kernel))) (ve_var (visI (by decide +kernel)))) (va_nil))))))
  (vss_one (vs_if (vt_notin (ve_var (visI (by decide +kernel))) (ve_var (visI (by decide +kernel)))) (vss_cons (vs_put (visI (by decide +kernel)) (ve_bl) (ve_var (visI (by decide +kernel))))
  (vss_one (vs_expr (ve_app (visI (by decide +kernel)) (ve_var (visI (by decide +kernel))))))) (vss_nil)))))
  (vss_one (vs_set (stoI (by decide +kernel)) (ve_add (ve_var (visI (by decide +kernel))) (ve_int))))))
  (vss_one (vs_expr (ve_app (visI (by decide +kernel)) (ve_blt (bltI (u := .builtin "sorted") m_sorted (by decide +kernel) (by decide +kernel) (by decide +kernel) (by decide +kernel)) (fun X g => r_sorted g) sorted_s (va_cons (ve_var (visI (by decide +kernel))) (va_nil)))))))))) (vss_nil)))))
  (vss_one (vs_ret (ve_blt (bltI (u := .builtin "sorted") m_sorted (by decide +kernel) (by decide +kernel) (by decide +kernel) (by decide +kernel)) (fun X g => r_sorted g) sorted_s (va_cons (ve_var (visI (by decide +kernel))) (va_nil)))))))
theorem e_L_had (d0 d1 : D) : startE M_L_had [d0, d1] N_L_had.length = [.val d0, .val d1, .emp, .emp, .emp] := rfl
def t_L_had : STt :=
  sSeq (sSet 2 (eDic0 false))
  (sSeq (sFor (iSeq (eVar 1)) (gTp 2 (gsCons (gNm 3) (gsCons (gNm 4) (gsNil)))) (sPut 2 (eOp2 opIdx (eOp2 opIdx (eVar 0) (eVar 3)) (eVar 4)) (eOp2 opAdd (eMth "dict" opGet (eVar 2) (aCons (eOp2 opIdx (eOp2 opIdx (eVar 0) (eVar 3)) (eVar 4)) (aCons (eC (.int 0)) (aNil)))) (eC (.int 1)))))
  (sRet (eVar 2)))
theorem b_L_had {c : Cfg} {k : Nat} : VSs (c.inn k N_L_had (defScope s_L_had)) (defBody s_L_had) t_L_had :=
  vss_cons (vs_set (stoI (by decide +kernel)) (ve_dic0K))
  (vss_cons (vs_for (vi_seq (ve_var (visI (by decide +kernel)))) (vg_tup (vgs_cons (vg_name (stoI (by decide +kernel))) (vgs_cons (vg_name (stoI (by decide +kernel))) (vgs_nil)))) (vss_one (vs_put (visI (by decide +kernel)) (ve_add (ve_mth PySem.F.plainAttrs_dict PySem.F.slot_dict_get PySem.F.type_dict_get (fun X g => r_get g) get_s (ve_var (visI (by decide +kernel))) (va_cons (ve_idx (ve_idx (ve_var (visI (by decide +kernel))) (ve_var (visI (by decide +kernel)))) (ve_var (visI (by decide +kernel)))) (va_cons (ve_int) (va_nil)))) (ve_int)) (ve_idx (ve_idx (ve_var (visI (by decide +kernel))) (ve_var (visI (by decide +kernel)))) (ve_var (visI (by decide +kernel)))))))
  (vss_one (vs_ret (ve_var (visI (by decide +kernel))))))
theorem e_L_image (d0 : D) : startE M_L_image [d0] N_L_image.length = [.val d0, .emp, .emp, .emp] := rfl
def t_L_image : STt :=
  sSeq (sSet 1 (eLst (aNil)))
  (sSeq (sFor (iSeq (eLst (aCons (eTup (aCons (eC (.int 1)) (aCons (eC (.int 0)) (aNil)))) (aCons (eTup (aCons (eC (.int 0)) (aCons (eC (.int 1)) (aNil)))) (aNil))))) (gNm 2) (sSeq (sFor (iSeq (eVar 0)) (gNm 3) (sSet 2 (eCall M_L_led F_L_led (aCons (eC (.int 7)) (aCons (eTup (aCons (eVar 3) (aCons (eC (.int 0)) (aCons (eC (.int 0)) (aNil))))) (aCons (eVar 2) (aNil)))))))
  (sDrop (eApp 1 (eVar 2)))))
  (sRet (eVar 1)))
theorem b_L_image {c : Cfg} {k : Nat} (f_L_led : FnC (c.lv k) "_law_led" M_L_led F_L_led) : VSs (c.inn k N_L_image (defScope s_L_image)) (defBody s_L_image) t_L_image :=
  vss_cons (vs_set (stoI (by decide +kernel)) (ve_lst (va_nil)))
  (vss_cons (vs_for (vi_seq (ve_lst (va_cons (ve_tup (va_cons (ve_int) (va_cons (ve_int) (va_nil)))) (va_cons (ve_tup (va_cons (ve_int) (va_cons (ve_int) (va_nil)))) (va_nil))))) (vg_name (stoI (by decide +kernel))) (vss_cons (vs_for (vi_seq (ve_var (visI (by decide +kernel)))) (vg_name (stoI (by decide +kernel))) (vss_one (vs_set (stoI (by decide +kernel)) (ve_call f_L_led.inn (glI (by decide +kernel)) (va_cons (ve_int) (va_cons (ve_tup (va_cons (ve_var (visI (by decide +kernel))) (va_cons (ve_int) (va_cons (ve_int) (va_nil))))) (va_cons (ve_var (visI (by decide +kernel))) (va_nil))))))))
  (vss_one (vs_expr (ve_app (visI (by decide +kernel)) (ve_var (visI (by decide +kernel))))))))
  (vss_one (vs_ret (ve_var (visI (by decide +kernel))))))
theorem e_L_table : startE M_L_table [] N_L_table.length = [.emp, .emp, .emp, .emp, .emp] := rfl
def t_L_table : STt :=
  sSeq (sSet 0 (eLst (aCons (eC (.str "stay")) (aCons (eC (.str "turn")) (aCons (eC (.str "half")) (aCons (eC (.str "back")) (aCons (eC (.str "side")) (aCons (eC (.str "flip")) (aCons (eC (.str "cross")) (aCons (eC (.str "other")) (aNil)))))))))))
  (sSeq (sSet 1 (eDic0 true))
  (sSeq (sFor (iSeq (eVar 0)) (gNm 2) (sFor (iSeq (eVar 0)) (gNm 3) (sFor (iSeq (eVar 0)) (gNm 4) (sIf (tV (eOp2 opEq (eCall M_L_image F_L_image (aCons (eLst (aCons (eVar 2) (aCons (eVar 3) (aNil)))) (aNil))) (eCall M_L_image F_L_image (aCons (eLst (aCons (eVar 4) (aNil))) (aNil))))) (sPut 1 (eTup (aCons (eVar 2) (aCons (eVar 3) (aNil)))) (eVar 4)) (sNext)))))
  (sRet (eVar 1))))
theorem b_L_table {c : Cfg} {k : Nat} (f_L_image : FnC (c.lv k) "_law_image" M_L_image F_L_image) : VSs (c.inn k N_L_table (defScope s_L_table)) (defBody s_L_table) t_L_table :=
  vss_cons (vs_set (stoI (by decide +kernel)) (ve_lst (va_cons (ve_str) (va_cons (ve_str) (va_cons (ve_str) (va_cons (ve_str) (va_cons (ve_str) (va_cons (ve_str) (va_cons (ve_str) (va_cons (ve_str) (va_nil)))))))))))
  (vss_cons (vs_set (stoI (by decide +kernel)) (ve_dic0T))
  (vss_cons (vs_for (vi_seq (ve_var (visI (by decide +kernel)))) (vg_name (stoI (by decide +kernel))) (vss_one (vs_for (vi_seq (ve_var (visI (by decide +kernel)))) (vg_name (stoI (by decide +kernel))) (vss_one (vs_for (vi_seq (ve_var (visI (by decide +kernel)))) (vg_name (stoI (by decide +kernel))) (vss_one (vs_if (vt_eq (ve_call f_L_image.inn (glI (by decide +kernel)) (va_cons (ve_lst (va_cons (ve_var (visI (by decide +kernel))) (va_cons (ve_var (visI (by decide +kernel))) (va_nil)))) (va_nil))) (ve_call f_L_image.inn (glI (by decide +kernel)) (va_cons (ve_lst (va_cons (ve_var (visI (by decide +kernel))) (va_nil))) (va_nil)))) (vss_one (vs_put (visI (by decide +kernel)) (ve_var (visI (by decide +kernel))) (ve_tup (va_cons (ve_var (visI (by decide +kernel))) (va_cons (ve_var (visI (by decide +kernel))) (va_nil)))))) (vss_nil))))))))
  (vss_one (vs_ret (ve_var (visI (by decide +kernel)))))))
theorem e_L_size (d0 d1 d2 : D) : startE M_L_size [d0, d1, d2] N_L_size.length = [.val d0, .bor d1, .bor d2, .emp, .emp, .emp, .emp, .emp, .emp, .emp] := rfl
def t_L_size : STt :=
  sSeq (sSet 3 (eDic1 (eTup (aCons (eC (.str "stay")) (aCons (eC (.int 0)) (aCons (eC (.int 0)) (aNil))))) (eC (.bl true))))
  (sSeq (sSet 4 (eLst (aCons (eTup (aCons (eC (.str "stay")) (aCons (eC (.int 0)) (aCons (eC (.int 0)) (aNil))))) (aNil))))
  (sSeq (sWhile (tV (eOp2 opNe (eVar 4) (eLst (aNil)))) (sSeq (sSet 5 (ePop 4))
  (sFor (iSeq (eVar 1)) (gNm 6) (sSeq (sAsg (gTp 2 (gsCons (gNm 7) (gsCons (gNm 8) (gsNil)))) (eCall M_L_led F_L_led (aCons (eVar 0) (aCons (eVar 6) (aCons (eTup (aCons (eOp2 opIdx (eVar 5) (eC (.int 1))) (aCons (eOp2 opIdx (eVar 5) (eC (.int 2))) (aNil)))) (aNil))))))
  (sSeq (sSet 9 (eTup (aCons (eOp2 opIdx (eVar 2) (eTup (aCons (eOp2 opIdx (eVar 5) (eC (.int 0))) (aCons (eOp2 opIdx (eVar 6) (eC (.int 0))) (aNil))))) (aCons (eVar 7) (aCons (eVar 8) (aNil))))))
  (sIf (tV (eOp2 (opIn true) (eVar 9) (eVar 3))) (sSeq (sPut 3 (eVar 9) (eC (.bl true)))
  (sDrop (eApp 4 (eVar 9)))) (sNext)))))))
  (sRet (eOpn opLen (aCons (eVar 3) (aNil))))))
theorem b_L_size {c : Cfg} {k : Nat} (f_L_led : FnC (c.lv k) "_law_led" M_L_led F_L_led) (m_len : c.mg "len" = none) : VSs (c.inn k N_L_size (defScope s_L_size)) (defBody s_L_size) t_L_size :=
  vss_cons (vs_set (stoI (by decide +kernel)) (ve_dic1 (ve_tup (va_cons (ve_str) (va_cons (ve_int) (va_cons (ve_int) (va_nil))))) (ve_bl)))
  (vss_cons (vs_set (stoI (by decide +kernel)) (ve_lst (va_cons (ve_tup (va_cons (ve_str) (va_cons (ve_int) (va_cons (ve_int) (va_nil))))) (va_nil))))
  (vss_cons (vs_while (vt_ne (ve_var (visI (by decide +kernel))) (ve_lst (va_nil))) (vss_cons (vs_set (stoI (by decide +kernel)) (ve_pop (visI (by decide +kernel))))
  (vss_one (vs_for (vi_seq (ve_var (visI (by decide +kernel)))) (vg_name (stoI (by decide +kernel))) (vss_cons (vs_asg (vg_tup (vgs_cons (vg_name (stoI (by decide +kernel))) (vgs_cons (vg_name (stoI (by decide +kernel))) (vgs_nil)))) (ve_call f_L_led.inn (glI (by decide +kernel)) (va_cons (ve_var (visI (by decide +kernel))) (va_cons (ve_var (visI (by decide +kernel))) (va_cons (ve_tup (va_cons (ve_idx (ve_var (visI (by decide +kernel))) (ve_int)) (va_cons (ve_idx (ve_var (visI (by decide +kernel))) (ve_int)) (va_nil)))) (va_nil))))))
  (vss_cons (vs_set (stoI (by decide +kernel)) (ve_tup (va_cons (ve_idx (ve_var (visI (by decide +kernel))) (ve_tup (va_cons (ve_idx (ve_var (visI (by decide +kernel))) (ve_int)) (va_cons (ve_idx (ve_var (visI (by decide +kernel))) (ve_int)) (va_nil))))) (va_cons (ve_var (visI (by decide +kernel))) (va_cons (ve_var (visI (by decide +kernel))) (va_nil))))))
  (vss_one (vs_if (vt_notin (ve_var (visI (by decide +kernel))) (ve_var (visI (by decide +kernel)))) (vss_cons (vs_put (visI (by decide +kernel)) (ve_bl) (ve_var (visI (by decide +kernel))))
  (vss_one (vs_expr (ve_app (visI (by decide +kernel)) (ve_var (visI (by decide +kernel))))))) (vss_nil)))))))))
  (vss_one (vs_ret (ve_blt (bltI (u := .builtin "len") m_len (by decide +kernel) (by decide +kernel) (by decide +kernel) (by decide +kernel)) (fun X g => r_len g) len_s (va_cons (ve_var (visI (by decide +kernel))) (va_nil)))))))
theorem e_L_price (d0 d1 : D) : startE M_L_price [d0, d1] N_L_price.length = [.val d0, .val d1, .emp, .emp] := rfl
def t_L_price : STt :=
  sSeq (sSet 2 (eC (.int 0)))
  (sSeq (sFor (iSeq (eCall M_L_circles F_L_circles (aCons (eOpn opLen (aCons (eVar 0) (aNil))) (aCons (eVar 1) (aNil))))) (gNm 3) (sSet 2 (eOp2 opSub (eOp2 opAdd (eVar 2) (eOpn opLen (aCons (eVar 3) (aNil)))) (eOpn opMax1 (aCons (eListV (eCall M_L_had F_L_had (aCons (eVar 0) (aCons (eVar 3) (aNil))))) (aNil))))))
  (sRet (eVar 2)))
theorem b_L_price {c : Cfg} {k : Nat} (f_L_circles : FnC (c.lv k) "_law_circles" M_L_circles F_L_circles) (f_L_had : FnC (c.lv k) "_law_had" M_L_had F_L_had) (m_len : c.mg "len" = none) (m_list : c.mg "list" = none) (m_max : c.mg "max" = none) : VSs (c.inn k N_L_price (defScope s_L_price)) (defBody s_L_price) t_L_price :=
  vss_cons (vs_set (stoI (by decide +kernel)) (ve_int))
  (vss_cons (vs_for (vi_seq (ve_call f_L_circles.inn (glI (by decide +kernel)) (va_cons (ve_blt (bltI (u := .builtin "len") m_len (by decide +kernel) (by decide +kernel) (by decide +kernel) (by decide +kernel)) (fun X g => r_len g) len_s (va_cons (ve_var (visI (by decide +kernel))) (va_nil))) (va_cons (ve_var (visI (by decide +kernel))) (va_nil))))) (vg_name (stoI (by decide +kernel))) (vss_one (vs_set (stoI (by decide +kernel)) (ve_sub (ve_add (ve_var (visI (by decide +kernel))) (ve_blt (bltI (u := .builtin "len") m_len (by decide +kernel) (by decide +kernel) (by decide +kernel) (by decide +kernel)) (fun X g => r_len g) len_s (va_cons (ve_var (visI (by decide +kernel))) (va_nil)))) (ve_blt (bltI (u := .builtin "max") m_max (by decide +kernel) (by decide +kernel) (by decide +kernel) (by decide +kernel)) (fun X g => r_max g) max_s (va_cons (ve_listV (bltI (u := .type "list") m_list (by decide +kernel) (by decide +kernel) (by decide +kernel) (by decide +kernel)) (ve_call f_L_had.inn (glI (by decide +kernel)) (va_cons (ve_var (visI (by decide +kernel))) (va_cons (ve_var (visI (by decide +kernel))) (va_nil))))) (va_nil)))))))
  (vss_one (vs_ret (ve_var (visI (by decide +kernel))))))
theorem e_L_told_well (d0 d1 d2 d3 : D) : startE M_L_told_well [d0, d1, d2, d3] N_L_told_well.length = [.bor d0, .bor d1, .val d2, .bor d3, .emp, .emp, .emp, .emp, .emp] := rfl
def t_L_told_well : STt :=
  sSeq (sSet 4 (eOpn opLen (aCons (eVar 1) (aNil))))
  (sSeq (sIf (tOrD (tNotD (tV (eOpn opIsi (aCons (eVar 0) (aCons (eC (.ty "tuple")) (aNil)))))) (tOrD (tV (eOp2 opNe (eOpn opLen (aCons (eVar 0) (aNil))) (eC (.int 3)))) (tOrD (tNotD (tV (eOpn opIsi (aCons (eOp2 opIdx (eVar 0) (eC (.int 0))) (aCons (eC (.ty "list")) (aNil)))))) (tNotD (tV (eCall M_L_whole F_L_whole (aCons (eOp2 opIdx (eVar 0) (eC (.int 1))) (aNil)))))))) (sRet (eC (.bl false))) (sNext))
  (sSeq (sIf (tOrD (tV (eOp2 opGt (eOpn opLen (aCons (eOp2 opIdx (eVar 0) (eC (.int 0))) (aNil))) (eC (.int 4)))) (tV (eOp2 opNe (eLc (iSeq (eOp2 opIdx (eVar 0) (eC (.int 0)))) (gNm 7) (tNotD (tV (eCall M_L_is_movement F_L_is_movement (aCons (eVar 4) (aCons (eVar 7) (aNil)))))) (eVar 7) [7]) (eLst (aNil))))) (sRet (eC (.bl false))) (sNext))
  (sSeq (sIf (tOrD (tNotD (tV (eOpn opIsi (aCons (eOp2 opIdx (eVar 0) (eC (.int 2))) (aCons (eC (.ty "tuple")) (aNil)))))) (tV (eOp2 opNe (eOpn opLen (aCons (eOp2 opIdx (eVar 0) (eC (.int 2))) (aNil))) (eC (.int 3))))) (sRet (eC (.bl false))) (sNext))
  (sSeq (sSet 5 (eOp2 opIdx (eOp2 opIdx (eVar 0) (eC (.int 2))) (eC (.int 0))))
  (sSeq (sSet 6 (eLc (iRg1 (aCons (eOp2 opMul (eVar 4) (eVar 4)) (aNil))) (gNm 8) (tV (eOp2 opNe (eOp2 opIdx (eOp2 opIdx (eVar 5) (eOp2 opDiv (eVar 8) (eVar 4))) (eOp2 opMod (eVar 8) (eVar 4))) (eOp2 opIdx (eOp2 opIdx (eVar 1) (eOp2 opDiv (eVar 8) (eVar 4))) (eOp2 opMod (eVar 8) (eVar 4))))) (eOpn opDivmod (aCons (eVar 8) (aCons (eVar 4) (aNil)))) [8]))
  (sSeq (sIf (tOrD (tV (eOp2 opNe (eOp2 opIdx (eOp2 opIdx (eVar 0) (eC (.int 2))) (eC (.int 1))) (eVar 6))) (tOrD (tV (eOp2 opGt (eOpn opLen (aCons (eVar 6) (aNil))) (eVar 2))) (tV (eOp2 opNe (eOp2 opIdx (eVar 0) (eC (.int 1))) (eCall M_L_size F_L_size (aCons (eVar 4) (aCons (eOp2 opIdx (eVar 0) (eC (.int 0))) (aCons (eVar 3) (aNil))))))))) (sRet (eC (.bl false))) (sNext))
  (sSeq (sIf (tV (eOp2 opNe (eOp2 opIdx (eVar 0) (eC (.int 2))) (eCall M_mended F_mended (aCons (eVar 1) (aCons (eOpn opList (aCons (eOp2 opIdx (eVar 0) (eC (.int 0))) (aNil))) (aNil)))))) (sRet (eC (.bl false))) (sNext))
  (sRet (eOp2 opEq (eLc (iSeq (eOp2 opIdx (eVar 0) (eC (.int 0)))) (gNm 7) (tV (eOp2 opNe (eCall M_L_moved F_L_moved (aCons (eVar 5) (aCons (eVar 7) (aNil)))) (eVar 5))) (eVar 7) [7]) (eLst (aNil)))))))))))
theorem b_L_told_well {c : Cfg} {k : Nat} (f_L_whole : FnC (c.lv k) "_law_whole" M_L_whole F_L_whole) (f_L_is_movement : FnC (c.lv k) "_law_is_movement" M_L_is_movement F_L_is_movement) (f_L_size : FnC (c.lv k) "_law_size" M_L_size F_L_size) (f_mended : FnC (c.lv k) "mended" M_mended F_mended) (f_L_moved : FnC (c.lv k) "_law_moved" M_L_moved F_L_moved) (m_len : c.mg "len" = none) (m_tuple : c.mg "tuple" = none) (m_isinstance : c.mg "isinstance" = none) (m_list : c.mg "list" = none) (m_range : c.mg "range" = none) (m_divmod : c.mg "divmod" = none) : VSs (c.inn k N_L_told_well (defScope s_L_told_well)) (defBody s_L_told_well) t_L_told_well :=
  vss_cons (vs_set (stoI (by decide +kernel)) (ve_blt (bltI (u := .builtin "len") m_len (by decide +kernel) (by decide +kernel) (by decide +kernel) (by decide +kernel)) (fun X g => r_len g) len_s (va_cons (ve_var (visI (by decide +kernel))) (va_nil))))
  (vss_cons (vs_if (vw_vt (vw_or (vt_not (vt_val (ve_blt (bltI (u := .builtin "isinstance") m_isinstance (by decide +kernel) (by decide +kernel) (by decide +kernel) (by decide +kernel)) (fun X g => by rw [← g.K]; exact call_isiD) isi_s (va_cons (ve_var (visI (by decide +kernel))) (va_cons (ve_type (bltI (u := .type "tuple") m_tuple (by decide +kernel) (by decide +kernel) (by decide +kernel) (by decide +kernel))) (va_nil)))))) (vw_or (vt_ne (ve_blt (bltI (u := .builtin "len") m_len (by decide +kernel) (by decide +kernel) (by decide +kernel) (by decide +kernel)) (fun X g => r_len g) len_s (va_cons (ve_var (visI (by decide +kernel))) (va_nil))) (ve_int)) (vw_or (vt_not (vt_val (ve_blt (bltI (u := .builtin "isinstance") m_isinstance (by decide +kernel) (by decide +kernel) (by decide +kernel) (by decide +kernel)) (fun X g => by rw [← g.K]; exact call_isiD) isi_s (va_cons (ve_idx (ve_var (visI (by decide +kernel))) (ve_int)) (va_cons (ve_type (bltI (u := .type "list") m_list (by decide +kernel) (by decide +kernel) (by decide +kernel) (by decide +kernel))) (va_nil)))))) (vw_or1 (vt_not (vt_val (ve_call f_L_whole.inn (glI (by decide +kernel)) (va_cons (ve_idx (ve_var (visI (by decide +kernel))) (ve_int)) (va_nil)))))))))) (vss_one (vs_ret (ve_bl))) (vss_nil))
  (vss_cons (vs_if (vw_vt (vw_or (vt_gt (ve_blt (bltI (u := .builtin "len") m_len (by decide +kernel) (by decide +kernel) (by decide +kernel) (by decide +kernel)) (fun X g => r_len g) len_s (va_cons (ve_idx (ve_var (visI (by decide +kernel))) (ve_int)) (va_nil))) (ve_int)) (vw_or1 (vt_ne (ve_lc (own := [("_law_one", 7)]) (vi_seq (ve_idx (ve_var (visI (by decide +kernel))) (ve_int))) (by decide +kernel) (vg_name (stoK (by decide +kernel))) (vts_one (vt_not (vt_val (ve_call f_L_is_movement.blk (glK (by decide +kernel)) (va_cons (ve_var (visK (by decide +kernel))) (va_cons (ve_var (visK (by decide +kernel))) (va_nil))))))) (ve_var (visK (by decide +kernel)))) (ve_lst (va_nil)))))) (vss_one (vs_ret (ve_bl))) (vss_nil))
  (vss_cons (vs_if (vw_vt (vw_or (vt_not (vt_val (ve_blt (bltI (u := .builtin "isinstance") m_isinstance (by decide +kernel) (by decide +kernel) (by decide +kernel) (by decide +kernel)) (fun X g => by rw [← g.K]; exact call_isiD) isi_s (va_cons (ve_idx (ve_var (visI (by decide +kernel))) (ve_int)) (va_cons (ve_type (bltI (u := .type "tuple") m_tuple (by decide +kernel) (by decide +kernel) (by decide +kernel) (by decide +kernel))) (va_nil)))))) (vw_or1 (vt_ne (ve_blt (bltI (u := .builtin "len") m_len (by decide +kernel) (by decide +kernel) (by decide +kernel) (by decide +kernel)) (fun X g => r_len g) len_s (va_cons (ve_idx (ve_var (visI (by decide +kernel))) (ve_int)) (va_nil))) (ve_int))))) (vss_one (vs_ret (ve_bl))) (vss_nil))
  (vss_cons (vs_set (stoI (by decide +kernel)) (ve_idx (ve_idx (ve_var (visI (by decide +kernel))) (ve_int)) (ve_int)))
  (vss_cons (vs_setLc (own := [("_law_k", 8)]) (stoI (by decide +kernel)) (by decide +kernel) (vi_rg1 (bltI (u := .type "range") m_range (by decide +kernel) (by decide +kernel) (by decide +kernel) (by decide +kernel)) (va_cons (ve_mul (ve_var (visI (by decide +kernel))) (ve_var (visI (by decide +kernel)))) (va_nil))) (by decide +kernel) (vg_name (stoK (by decide +kernel))) (vts_one (vt_ne (ve_idx (ve_idx (ve_var (visK (by decide +kernel))) (ve_div (ve_var (visK (by decide +kernel))) (ve_var (visK (by decide +kernel))))) (ve_mod (ve_var (visK (by decide +kernel))) (ve_var (visK (by decide +kernel))))) (ve_idx (ve_idx (ve_var (visK (by decide +kernel))) (ve_div (ve_var (visK (by decide +kernel))) (ve_var (visK (by decide +kernel))))) (ve_mod (ve_var (visK (by decide +kernel))) (ve_var (visK (by decide +kernel))))))) (ve_blt (bltK (u := .builtin "divmod") m_divmod (by decide +kernel) (by decide +kernel) (by decide +kernel) (by decide +kernel)) (fun X g => r_divmod g) divmod_s (va_cons (ve_var (visK (by decide +kernel))) (va_cons (ve_var (visK (by decide +kernel))) (va_nil)))))
  (vss_cons (vs_if (vw_vt (vw_or (vt_ne (ve_idx (ve_idx (ve_var (visI (by decide +kernel))) (ve_int)) (ve_int)) (ve_var (visI (by decide +kernel)))) (vw_or (vt_gt (ve_blt (bltI (u := .builtin "len") m_len (by decide +kernel) (by decide +kernel) (by decide +kernel) (by decide +kernel)) (fun X g => r_len g) len_s (va_cons (ve_var (visI (by decide +kernel))) (va_nil))) (ve_var (visI (by decide +kernel)))) (vw_or1 (vt_ne (ve_idx (ve_var (visI (by decide +kernel))) (ve_int)) (ve_call f_L_size.inn (glI (by decide +kernel)) (va_cons (ve_var (visI (by decide +kernel))) (va_cons (ve_idx (ve_var (visI (by decide +kernel))) (ve_int)) (va_cons (ve_var (visI (by decide +kernel))) (va_nil)))))))))) (vss_one (vs_ret (ve_bl))) (vss_nil))
  (vss_cons (vs_if (vt_ne (ve_idx (ve_var (visI (by decide +kernel))) (ve_int)) (ve_call f_mended.inn (glI (by decide +kernel)) (va_cons (ve_var (visI (by decide +kernel))) (va_cons (ve_bty (bltI (u := .type "list") m_list (by decide +kernel) (by decide +kernel) (by decide +kernel) (by decide +kernel)) (fun X g => r_list g) list_s (va_cons (ve_idx (ve_var (visI (by decide +kernel))) (ve_int)) (va_nil))) (va_nil))))) (vss_one (vs_ret (ve_bl))) (vss_nil))
  (vss_one (vs_ret (ve_eq (ve_lc (own := [("_law_one", 7)]) (vi_seq (ve_idx (ve_var (visI (by decide +kernel))) (ve_int))) (by decide +kernel) (vg_name (stoK (by decide +kernel))) (vts_one (vt_ne (ve_call f_L_moved.blk (glK (by decide +kernel)) (va_cons (ve_var (visK (by decide +kernel))) (va_cons (ve_var (visK (by decide +kernel))) (va_nil)))) (ve_var (visK (by decide +kernel))))) (ve_var (visK (by decide +kernel)))) (ve_lst (va_nil))))))))))))
theorem e_L_again (d1 d2 d3 : D) : startP M_L_again [d1, d2, d3] N_L_again.length = [.emp, .val d1, .val d2, .val d3, .emp, .emp, .emp] := rfl
def t_L_again : EndsD → VS.Env → D → Nat → Prop :=
  dLook 0 (dCons 0 (sSet 4 (eOp2 opIdx (eVar 0) (eC (.int 1))))
  (dCons 0 (sSet 5 (eOpn opLen (aCons (eOp2 opIdx (eOp2 opIdx (eVar 0) (eC (.int 2))) (eC (.int 1))) (aNil))))
  (dEnd (dApp (pIx 0 (pN)) (eTup (aCons (eC (.str "turn")) (aCons (eC (.int 0)) (aCons (eC (.int 0)) (aNil))))) (dApp (pIx 1 (pIx 2 (pN))) (eC .non) (dClr (pIx 2 (pIx 2 (pN))) (sSeq (sSet 6 (eCall M_bettered F_bettered (aCons (eVar 1) (aCons (eVar 2) (aNil)))))
  (sRet (eAnd (eCall M_L_told_well F_L_told_well (aCons (eVar 6) (aCons (eVar 1) (aCons (eVar 2) (aCons (eVar 3) (aNil)))))) (eAnd (eOp2 opEq (eOp2 opIdx (eVar 6) (eC (.int 1))) (eVar 4)) (eOp2 opEq (eOpn opLen (aCons (eOp2 opIdx (eOp2 opIdx (eVar 6) (eC (.int 2))) (eC (.int 1))) (aNil))) (eVar 5))))))))))))
theorem b_L_again {c : Cfg} {k : Nat} (f_bettered : FnC (c.lv k) "bettered" M_bettered F_bettered) (f_L_told_well : FnC (c.lv k) "_law_told_well" M_L_told_well F_L_told_well) (m_len : c.mg "len" = none) : VD2 (c.inn k N_L_again (defScope s_L_again)) 0 (defBody s_L_again) t_L_again :=
  vd2_look (vd1_cons (vs_set (stoI (by decide +kernel)) (ve_idx (ve_var (visI (by decide +kernel))) (ve_int)))
  (vd1_cons (vs_set (stoI (by decide +kernel)) (ve_blt (bltI (u := .builtin "len") m_len (by decide +kernel) (by decide +kernel) (by decide +kernel) (by decide +kernel)) (fun X g => r_len g) len_s (va_cons (ve_idx (ve_idx (ve_var (visI (by decide +kernel))) (ve_int)) (ve_int)) (va_nil))))
  (vd1_end (vd2_app (pth_ix (n := 0) (pth_name (visI (by decide +kernel)))) (ve_tup (va_cons (ve_str) (va_cons (ve_int) (va_cons (ve_int) (va_nil))))) (vd2_app (pth_ix (n := 1) (pth_ix (n := 2) (pth_name (visI (by decide +kernel))))) (ve_non) (vd2_clr (pth_ix (n := 2) (pth_ix (n := 2) (pth_name (visI (by decide +kernel))))) (vss_cons (vs_set (stoI (by decide +kernel)) (ve_call f_bettered.inn (glI (by decide +kernel)) (va_cons (ve_var (visI (by decide +kernel))) (va_cons (ve_var (visI (by decide +kernel))) (va_nil)))))
  (vss_one (vs_ret (ve_and (ve_call f_L_told_well.inn (glI (by decide +kernel)) (va_cons (ve_var (visI (by decide +kernel))) (va_cons (ve_var (visI (by decide +kernel))) (va_cons (ve_var (visI (by decide +kernel))) (va_cons (ve_var (visI (by decide +kernel))) (va_nil)))))) (ve_and (ve_eq (ve_idx (ve_var (visI (by decide +kernel))) (ve_int)) (ve_var (visI (by decide +kernel)))) (ve_one (ve_eq (ve_blt (bltI (u := .builtin "len") m_len (by decide +kernel) (by decide +kernel) (by decide +kernel) (by decide +kernel)) (fun X g => r_len g) len_s (va_cons (ve_idx (ve_idx (ve_var (visI (by decide +kernel))) (ve_int)) (ve_int)) (va_nil))) (ve_var (visI (by decide +kernel))))))))))))))))
theorem e_law (d0 : D) : startE M_law [d0] N_law.length = [.bor d0, .emp, .emp, .emp, .emp, .emp, .emp, .emp, .emp, .emp, .emp, .emp, .emp, .emp, .emp, .emp] := rfl
def t_law : STt :=
  sSeq (sSet 1 (eCall M_L_mixed F_L_mixed (aCons (eCall M_L_cell_at F_L_cell_at (aCons (eVar 0) (aCons (eC (.int 0)) (aNil)))) (aCons (eC (.int 0)) (aNil)))))
  (sSeq (sSet 2 (eOp2 opIdx (eLst (aCons (eC (.int 1)) (aCons (eC (.int 2)) (aCons (eC (.int 2)) (aCons (eC (.int 2)) (aCons (eC (.int 2)) (aCons (eC (.int 2)) (aCons (eC (.int 2)) (aCons (eC (.int 2)) (aCons (eC (.int 2)) (aCons (eC (.int 3)) (aNil)))))))))))) (eOp2 opMod (eVar 1) (eC (.int 10)))))
  (sSeq (sSet 3 (eCall M_L_mixed F_L_mixed (aCons (eCall M_L_cell_at F_L_cell_at (aCons (eVar 0) (aCons (eC (.int 1)) (aNil)))) (aCons (eC (.int 1)) (aNil)))))
  (sSeq (sSet 4 (eCall M_L_letters F_L_letters (aCons (eVar 3) (aCons (eOp2 opAdd (eC (.int 1)) (eOp2 opMod (eOp2 opDiv (eVar 3) (eC (.int 26))) (eC (.int 4)))) (aNil)))))
  (sSeq (sSet 5 (eOp2 opAdd (eSl11 (eVar 0) (eC (.int 2)) (eC (.int 62))) (eLst (aCons (eOpn opLen (aCons (eVar 0) (aNil))) (aNil)))))
  (sSeq (sSet 6 (eCall M_L_carpet F_L_carpet (aCons (eVar 5) (aCons (eVar 2) (aCons (eVar 4) (aCons (eOp2 opDiv (eVar 3) (eC (.int 104))) (aNil)))))))
  (sSeq (sSet 7 (eOp2 opMod (eOp2 opDiv (eVar 1) (eC (.int 10))) (eC (.int 4))))
  (sSeq (sIf (tV (eOp2 opEq (eOp2 opMod (eOp2 opDiv (eVar 1) (eC (.int 40))) (eC (.int 5))) (eC (.int 0)))) (sSet 7 (eOp2 opMod (eOp2 opDiv (eVar 1) (eC (.int 200))) (eC (.int 10)))) (sNext))
  (sDeep 8 M_bettered F_bettered (aCons (eVar 6) (aCons (eVar 7) (aNil)))
  (dSetK 9 (eCall M_L_table F_L_table aNil)
  (dLook 8 (dCons 8 (sIf (tNotD (tV (eCall M_L_told_well F_L_told_well (aCons (eVar 8) (aCons (eVar 6) (aCons (eVar 7) (aCons (eVar 9) (aNil)))))))) (sRet (eC (.bl false))) (sNext))
  (dCons 8 (sFor (iRg1 (aCons (eOpn opLen (aCons (eVar 5) (aNil))) (aNil))) (gNm 10) (sSeq (sSet 11 (eCall M_L_mixed F_L_mixed (aCons (eOp2 opIdx (eVar 5) (eVar 10)) (aCons (eOp2 opAdd (eVar 10) (eC (.int 70))) (aNil)))))
  (sSeq (sSet 12 (eLc (iRg1 (aCons (eOp2 opAdd (eC (.int 1)) (eOp2 opMod (eVar 11) (eC (.int 3)))) (aNil))) (gNm 15) (tYesD) (eCall M_L_movement F_L_movement (aCons (eVar 2) (aCons (eCall M_L_mixed F_L_mixed (aCons (eOp2 opIdx (eVar 5) (eVar 10)) (aCons (eOp2 opAdd (eOp2 opAdd (eC (.int 20)) (eOp2 opMul (eC (.int 3)) (eVar 10))) (eVar 15)) (aNil)))) (aNil)))) [15]))
  (sSeq (sSet 13 (eCall M_L_price F_L_price (aCons (eVar 6) (aCons (eVar 12) (aNil)))))
  (sIf (tAndD (tV (eOp2 opLe (eVar 13) (eVar 7))) (tV (eOp2 opLtA (eVar 10) (eC (.int 24))))) (sSeq (sSet 14 (eCall M_L_size F_L_size (aCons (eVar 2) (aCons (eVar 12) (aCons (eVar 9) (aNil))))))
  (sIf (tOrD (tV (eOp2 opGt (eVar 14) (eOp2 opIdx (eVar 8) (eC (.int 1))))) (tAndD (tV (eOp2 opEq (eVar 14) (eOp2 opIdx (eVar 8) (eC (.int 1))))) (tV (eOp2 opLtA (eVar 13) (eOpn opLen (aCons (eOp2 opIdx (eOp2 opIdx (eVar 8) (eC (.int 2))) (eC (.int 1))) (aNil))))))) (sRet (eC (.bl false))) (sNext))) (sNext))))))
  (dEnd (dRetOr M_L_again F_L_again (eOp2 opGt (eVar 2) (eC (.int 2))) (aCons (eVar 6) (aCons (eVar 7) (aCons (eVar 9) (aNil))))))))))))))))))
theorem b_law {c : Cfg} {k : Nat} (f_bettered : FnC (c.lv k) "bettered" M_bettered F_bettered) (f_L_told_well : FnC (c.lv k) "_law_told_well" M_L_told_well F_L_told_well) (f_L_mixed : FnC (c.lv k) "_law_mixed" M_L_mixed F_L_mixed) (f_L_movement : FnC (c.lv k) "_law_movement" M_L_movement F_L_movement) (f_L_price : FnC (c.lv k) "_law_price" M_L_price F_L_price) (f_L_size : FnC (c.lv k) "_law_size" M_L_size F_L_size) (f_L_table : FnC (c.lv k) "_law_table" M_L_table F_L_table) (f_L_carpet : FnC (c.lv k) "_law_carpet" M_L_carpet F_L_carpet) (f_L_letters : FnC (c.lv k) "_law_letters" M_L_letters F_L_letters) (f_L_cell_at : FnC (c.lv k) "_law_cell_at" M_L_cell_at F_L_cell_at) (p_L_again : FnP (c.lv k) "_law_again" M_L_again F_L_again) (m_len : c.mg "len" = none) (m_range : c.mg "range" = none) : VSs (c.inn k N_law (defScope s_law)) (defBody s_law) t_law :=
  vss_cons (vs_set (stoI (by decide +kernel)) (ve_call f_L_mixed.inn (glI (by decide +kernel)) (va_cons (ve_call f_L_cell_at.inn (glI (by decide +kernel)) (va_cons (ve_var (visI (by decide +kernel))) (va_cons (ve_int) (va_nil)))) (va_cons (ve_int) (va_nil)))))
  (vss_cons (vs_set (stoI (by decide +kernel)) (ve_idx (ve_lst (va_cons (ve_int) (va_cons (ve_int) (va_cons (ve_int) (va_cons (ve_int) (va_cons (ve_int) (va_cons (ve_int) (va_cons (ve_int) (va_cons (ve_int) (va_cons (ve_int) (va_cons (ve_int) (va_nil)))))))))))) (ve_mod (ve_var (visI (by decide +kernel))) (ve_int))))
  (vss_cons (vs_set (stoI (by decide +kernel)) (ve_call f_L_mixed.inn (glI (by decide +kernel)) (va_cons (ve_call f_L_cell_at.inn (glI (by decide +kernel)) (va_cons (ve_var (visI (by decide +kernel))) (va_cons (ve_int) (va_nil)))) (va_cons (ve_int) (va_nil)))))
  (vss_cons (vs_set (stoI (by decide +kernel)) (ve_call f_L_letters.inn (glI (by decide +kernel)) (va_cons (ve_var (visI (by decide +kernel))) (va_cons (ve_add (ve_int) (ve_mod (ve_div (ve_var (visI (by decide +kernel))) (ve_int)) (ve_int))) (va_nil)))))
  (vss_cons (vs_set (stoI (by decide +kernel)) (ve_add (ve_sl11 (ve_var (visI (by decide +kernel))) (ve_int) (ve_int)) (ve_lst (va_cons (ve_blt (bltI (u := .builtin "len") m_len (by decide +kernel) (by decide +kernel) (by decide +kernel) (by decide +kernel)) (fun X g => r_len g) len_s (va_cons (ve_var (visI (by decide +kernel))) (va_nil))) (va_nil)))))
  (vss_cons (vs_set (stoI (by decide +kernel)) (ve_call f_L_carpet.inn (glI (by decide +kernel)) (va_cons (ve_var (visI (by decide +kernel))) (va_cons (ve_var (visI (by decide +kernel))) (va_cons (ve_var (visI (by decide +kernel))) (va_cons (ve_div (ve_var (visI (by decide +kernel))) (ve_int)) (va_nil)))))))
  (vss_cons (vs_set (stoI (by decide +kernel)) (ve_mod (ve_div (ve_var (visI (by decide +kernel))) (ve_int)) (ve_int)))
  (vss_cons (vs_if (vt_eq (ve_mod (ve_div (ve_var (visI (by decide +kernel))) (ve_int)) (ve_int)) (ve_int)) (vss_one (vs_set (stoI (by decide +kernel)) (ve_mod (ve_div (ve_var (visI (by decide +kernel))) (ve_int)) (ve_int)))) (vss_nil))
  (vs_deep (stoI (by decide +kernel)) f_bettered.inn (glI (by decide +kernel)) (va_cons (ve_var (visI (by decide +kernel))) (va_cons (ve_var (visI (by decide +kernel))) (va_nil)))
  (vd2_set (stoI (by decide +kernel)) (ve_call0 f_L_table.inn (glI (by decide +kernel)))
  (vd2_look (vd1_cons (vs_if (vt_not (vt_val (ve_call f_L_told_well.inn (glI (by decide +kernel)) (va_cons (ve_var (visI (by decide +kernel))) (va_cons (ve_var (visI (by decide +kernel))) (va_cons (ve_var (visI (by decide +kernel))) (va_cons (ve_var (visI (by decide +kernel))) (va_nil)))))))) (vss_one (vs_ret (ve_bl))) (vss_nil))
  (vd1_cons (vs_for (vi_rg1 (bltI (u := .type "range") m_range (by decide +kernel) (by decide +kernel) (by decide +kernel) (by decide +kernel)) (va_cons (ve_blt (bltI (u := .builtin "len") m_len (by decide +kernel) (by decide +kernel) (by decide +kernel) (by decide +kernel)) (fun X g => r_len g) len_s (va_cons (ve_var (visI (by decide +kernel))) (va_nil))) (va_nil))) (vg_name (stoI (by decide +kernel))) (vss_cons (vs_set (stoI (by decide +kernel)) (ve_call f_L_mixed.inn (glI (by decide +kernel)) (va_cons (ve_idx (ve_var (visI (by decide +kernel))) (ve_var (visI (by decide +kernel)))) (va_cons (ve_add (ve_var (visI (by decide +kernel))) (ve_int)) (va_nil)))))
  (vss_cons (vs_setLc (own := [("_law_j", 15)]) (stoI (by decide +kernel)) (by decide +kernel) (vi_rg1 (bltI (u := .type "range") m_range (by decide +kernel) (by decide +kernel) (by decide +kernel) (by decide +kernel)) (va_cons (ve_add (ve_int) (ve_mod (ve_var (visI (by decide +kernel))) (ve_int))) (va_nil))) (by decide +kernel) (vg_name (stoK (by decide +kernel))) (vts_nil) (ve_call f_L_movement.blk (glK (by decide +kernel)) (va_cons (ve_var (visK (by decide +kernel))) (va_cons (ve_call f_L_mixed.blk (glK (by decide +kernel)) (va_cons (ve_idx (ve_var (visK (by decide +kernel))) (ve_var (visK (by decide +kernel)))) (va_cons (ve_add (ve_add (ve_int) (ve_mul (ve_int) (ve_var (visK (by decide +kernel))))) (ve_var (visK (by decide +kernel)))) (va_nil)))) (va_nil)))))
  (vss_cons (vs_set (stoI (by decide +kernel)) (ve_call f_L_price.inn (glI (by decide +kernel)) (va_cons (ve_var (visI (by decide +kernel))) (va_cons (ve_var (visI (by decide +kernel))) (va_nil)))))
  (vss_one (vs_if (vw_vt (vw_and (vt_le (ve_var (visI (by decide +kernel))) (ve_var (visI (by decide +kernel)))) (vw_and1 (vt_ltA (ve_var (visI (by decide +kernel))) (ve_int))))) (vss_cons (vs_set (stoI (by decide +kernel)) (ve_call f_L_size.inn (glI (by decide +kernel)) (va_cons (ve_var (visI (by decide +kernel))) (va_cons (ve_var (visI (by decide +kernel))) (va_cons (ve_var (visI (by decide +kernel))) (va_nil))))))
  (vss_one (vs_if (vw_vt (vw_or (vt_gt (ve_var (visI (by decide +kernel))) (ve_idx (ve_var (visI (by decide +kernel))) (ve_int))) (vw_or1 (vw_vt (vw_and (vt_eq (ve_var (visI (by decide +kernel))) (ve_idx (ve_var (visI (by decide +kernel))) (ve_int))) (vw_and1 (vt_ltA (ve_var (visI (by decide +kernel))) (ve_blt (bltI (u := .builtin "len") m_len (by decide +kernel) (by decide +kernel) (by decide +kernel) (by decide +kernel)) (fun X g => r_len g) len_s (va_cons (ve_idx (ve_idx (ve_var (visI (by decide +kernel))) (ve_int)) (ve_int)) (va_nil)))))))))) (vss_one (vs_ret (ve_bl))) (vss_nil)))) (vss_nil)))))))
  (vd1_end (vd2_retOr (visI (by decide +kernel)) p_L_again.inn (glI (by decide +kernel)) (ve_gt (ve_var (visI (by decide +kernel))) (ve_int)) (va_cons (ve_var (visI (by decide +kernel))) (va_cons (ve_var (visI (by decide +kernel))) (va_cons (ve_var (visI (by decide +kernel))) (va_nil))))))))))))))))))
theorem h_turned_place : ∀ ds P Xp, ds.length = M_turned_place.length → F_turned_place ds P Xp → t_turned_place (bodyE P Xp) (startE M_turned_place ds N_turned_place.length) := by
  intro ds P Xp hlen_ h
  obtain ⟨w, r, c, rfl, h⟩ := h
  rw [gR_sg, gC_sg] at h
  (rw [e_turned_place]; decreasing_trivial_pre_omega)
  exact h
theorem h_led : ∀ ds P Xp, ds.length = M_led.length → F_led ds P Xp → t_led (bodyE P Xp) (startE M_led ds N_led.length) := by
  intro ds P Xp hlen_ h
  obtain ⟨n, w, d, r, y, x, rfl, hn, h⟩ := h
  (rw [e_led]; decreasing_trivial_pre_omega)
  exact h
theorem h_way_of : ∀ ds P Xp, ds.length = M_way_of.length → F_way_of ds P Xp → t_way_of (bodyE P Xp) (startE M_way_of ds N_way_of.length) := by
  intro ds P Xp hlen_ h
  obtain ⟨w, rfl, h⟩ := h
  (rw [e_way_of]; decreasing_trivial_pre_omega)
  refine lc_filter (fun d => decide (d = .str w.str)) id (by decide) ?_ ?_
  · rw [ways_filter]
    decreasing_trivial_pre_omega
    exact h
  · intro d hd K N h1 h2
    obtain ⟨v, rfl⟩ := mem_ways hd
    decreasing_trivial_pre_omega
    refine ite_d (fun hv => ?_) fun hv => ?_
    · obtain rfl := sg_inj hv
      decreasing_trivial_pre_omega
      exact h1 (by simp)
    · exact h2 (decide_eq_false fun e => hv (by rw [Way.str_inj (D.str.inj e)]; rfl))
theorem h_then : ∀ ds P Xp, ds.length = M_then.length → F_then ds P Xp → t_then (bodyE P Xp) (startE M_then ds N_then.length) := by
  intro ds P Xp hlen_ h
  obtain ⟨n, ⟨w, d, r⟩, ⟨w', d', r'⟩, rfl, hn, h⟩ := h
  (rw [e_then]; decreasing_trivial_pre_omega)
  exact h
theorem h_circle_from : ∀ ds P Xp, ds.length = M_circle_from.length → F_circle_from ds P Xp → t_circle_from (bodyE P Xp) (startE M_circle_from ds N_circle_from.length) := by
  intro ds P Xp hlen_ h
  obtain ⟨n, L, p, rfl, hn, h100, hL, hp, h⟩ := h
  have hn' : (0 : Int) < n := by omega
  have hnn : n * n ≤ 100 * 100 := Nat.mul_le_mul h100 h100
  have hC := CInv.one (n := n) (L := L) hp
  (rw [e_circle_from]; decreasing_trivial_pre_omega)
  refine while_inv (fun r e => ∃ F' W s5 s6 s7, CInv (ledP n) L [p] (allP n) F' W r ∧ e = [.val (.int n), .bor (.lst (L.map dM)), .val (dP p), .own (.dic true (kvA dP (fun _ => .bl true) F')), .own (.lst (W.map dP)), s5, s6, s7]) _ ⟨_, [p], _, _, _, hC, rfl⟩ ?_
  rintro r e ⟨F', W, s5, s6, s7, hC, rfl⟩ K3 hK3
  decreasing_trivial_pre_omega
  refine ite_n (fun hne => ?_) fun he => ?_
  · have hW : W ≠ [] := fun e => hne (ne_nil_P.mpr e)
    obtain ⟨W', one, rfl⟩ : ∃ W' one, W = W' ++ [one] := ⟨_, _, (List.dropLast_concat_getLast hW).symm⟩
    have hp1 : ((W' ++ [one]).map dP)[((W' ++ [one]).map dP).length - 1]? = some (dP one) := by simp
    have hdr : ((W' ++ [one]).map dP).dropLast = W'.map dP := by simp
    have hG := hC.take (W' := W') (one := one) (fun m => by simp [or_comm]) (by simp)
    decreasing_trivial_pre_omega
    rw [hdr]
    refine for_nat (fun k e => ∃ F' W s6 s7, GInv (ledP n) L [p] (allP n) one r (L.take k) F' W ∧ e = [.val (.int n), .bor (.lst (L.map dM)), .val (dP p), .own (.dic true (kvA dP (fun _ => .bl true) F')), .own (.lst (W.map dP)), .val (dP one), s6, s7]) ⟨F', W', _, _, hG, rfl⟩ ?_ ?_
    · rintro e ⟨F', W, s6, s7, hG, rfl⟩
      rw [List.length_map, List.take_length] at hG
      obtain ⟨hC', hlt⟩ := hG.back
      exact hK3 _ _ hlt ⟨F', W, _, _, _, hC', rfl⟩
    · rintro k d e hd3 ⟨F', W, s6, s7, hG, rfl⟩ K4 hK4
      rw [List.getElem?_map] at hd3
      obtain ⟨x, hx, rfl⟩ := Option.map_eq_some_iff.mp hd3
      have hxL : x ∈ L := List.mem_of_getElem? hx
      have hl := hG.len
      rw [allP_len] at hl
      have hN := hG.next (x := x) (fun m hm => rchP_in hn hp hm) hxL
      rw [← take_snoc hx] at hN
      have hsl1 : (kvA dP (fun _ => .bl true) F').length < sizeLine := by rw [kvA_len]; exact sl_of (by omega)
      have hWl := hG.ms
      have hsl2 : (W.map dP).length < sizeLine := by rw [List.length_map]; exact sl_of (by have := hG.wl; omega)
      decreasing_trivial_pre_omega
      refine ite_ni (fun hnot2 => ?_) fun hin2 => ?_
      · have hnot2 : ledP n one x ∉ F' := hnot2
        rw [gro_out hnot2] at hN
        have hput2 : dput (kvA dP (fun _ => .bl true) F') (dPl (lR n x.w x.d one.1 one.2) (lC n x.w x.r one.1 one.2)) (.bl true) = kvA dP (fun _ => .bl true) (F' ++ [ledP n one x]) := kvA_put dP_inj (v := fun _ => .bl true) hnot2
        decreasing_trivial_pre_omega
        rw [hput2]
        exact hK4 _ ⟨_, _, _, _, hN, by rw [List.map_append] <;> rfl⟩
      · have hin2 : ledP n one x ∈ F' := hin2
        rw [gro_in hin2] at hN
        exact hK4 _ ⟨_, _, _, _, hN, rfl⟩
  · obtain rfl := ne_nil_P.mp he
    have hs := sort_circ hn hp hC.nd hC.done
    decreasing_trivial_pre_omega
    rw [hs]
    exact h
theorem h_circles : ∀ ds P Xp, ds.length = M_circles.length → F_circles ds P Xp → t_circles (bodyE P Xp) (startE M_circles ds N_circles.length) := by
  intro ds P Xp hlen_ h
  obtain ⟨n, L, rfl, hn, h100, hL, h⟩ := h
  have hn' : (0 : Int) < n := by omega
  have hnn : n * n ≤ 100 * 100 := Nat.mul_le_mul h100 h100
  (rw [e_circles]; decreasing_trivial_pre_omega)
  refine for_nat (fun i e => i ≤ n ∧ ∃ F s4 s5 s6 s7, RInv n L i 0 F ∧ e = [.val (.int n), .bor (.lst (L.map dM)), .own (.dic true (kvA dP (fun _ => .bl true) F)), .own (.lst ((preR n L i 0).map fun p => dLP (circP n L p))), s4, s5, s6, s7]) ⟨by omega, [], _, _, _, _, RInv.zero, rfl⟩ ?_ ?_
  · rintro e ⟨_, F, s4, s5, s6, s7, hI, rfl⟩
    rw [rg_len, Int.toNat_natCast, preR_all]
    decreasing_trivial_pre_omega
    exact h
  · rintro i d e hd ⟨_, F, s4, s5, s6, s7, hI, rfl⟩ K hK
    obtain ⟨hi, rfl⟩ := rg_get hd
    rw [Int.toNat_natCast] at hi
    decreasing_trivial_pre_omega
    refine for_nat (fun j e => j ≤ n ∧ ∃ F s5 s6 s7, RInv n L i j F ∧ e = [.val (.int n), .bor (.lst (L.map dM)), .own (.dic true (kvA dP (fun _ => .bl true) F)), .own (.lst ((preR n L i j).map fun p => dLP (circP n L p))), .val (.int (0 + (i : Int))), s5, s6, s7]) ⟨by omega, F, _, _, _, hI, rfl⟩ ?_ ?_
    · rintro e ⟨_, F, s5, s6, s7, hI, rfl⟩
      rw [rg_len, Int.toNat_natCast] at hI
      exact hK _ ⟨by omega, F, _, _, _, _, hI.row, by rw [rg_len, Int.toNat_natCast, preR_row] <;> rfl⟩
    · rintro j d e hd2 ⟨_, F, s5, s6, s7, hI, rfl⟩ K2 hK2
      obtain ⟨hj, rfl⟩ := rg_get hd2
      rw [Int.toNat_natCast] at hj
      have hF := hI.len
      have hpl := preR_len n L i j
      have hij : i * n ≤ 100 * 100 := Nat.mul_le_mul (by omega) (by omega)
      have hsl : ((preR n L i j).map fun p => dLP (circP n L p)).length < sizeLine := by rw [List.length_map]; exact sl_of (by omega)
      have hp : (((i : Int), (j : Int)) : Pl) ∈ allP n := mem_allP.mpr ⟨by show (0 : Int) ≤ i; omega, by show (i : Int) < n; omega, by show (0 : Int) ≤ j; omega, by show (j : Int) < n; omega⟩
      rw [Int.zero_add, Int.zero_add]
      decreasing_trivial_pre_omega
      refine ite_ni (fun hnot => ?_) fun hin => ?_
      · obtain ⟨hnd, hI'⟩ := hI.circ hn hL hp hnot
        have hr := hI.root hp rfl rfl hnot
        have hcl : (circP n L ((i : Int), (j : Int))).length ≤ n * n := by rw [← allP_len n]; exact List.length_filter_le _ _
        decreasing_trivial_pre_omega
        refine for_nat (fun k e => ∃ s7, e = [.val (.int n), .bor (.lst (L.map dM)), .own (.dic true (kvA dP (fun _ => .bl true) (F ++ (circP n L ((i : Int), (j : Int))).take k))), .own (.lst ((preR n L i (j + 1)).map fun p => dLP (circP n L p))), .val (.int (0 + (i : Int))), .val (.int (0 + (j : Int))), .val (.lst ((circP n L ((i : Int), (j : Int))).map dP)), s7]) ⟨s7, ?_⟩ ?_ ?_
        · rw [preR_in hr, List.take_zero, List.append_nil, List.map_append]
          simp only [Int.zero_add]
          rfl
        · rintro e ⟨s7, rfl⟩
          rw [List.length_map, List.take_length]
          exact hK2 _ ⟨by omega, _, _, _, _, hI', rfl⟩
        · rintro k d e hd3 ⟨s7, rfl⟩ K3 hK3
          rw [List.getElem?_map] at hd3
          obtain ⟨q, hq, rfl⟩ := Option.map_eq_some_iff.mp hd3
          have hnq : q ∉ F ++ (circP n L ((i : Int), (j : Int))).take k := fun z => by
            have h2 : (F ++ (circP n L ((i : Int), (j : Int))).take (k + 1)).Nodup := hnd.sublist ((List.Sublist.refl F).append (List.take_sublist _ _))
            rw [take_snoc hq, ← List.append_assoc, List.nodup_append] at h2
            exact h2.2.2 q z q (by simp) rfl
          have hput := kvA_put dP_inj (v := fun _ => D.bl true) hnq
          rw [List.append_assoc, ← take_snoc hq] at hput
          have hsl3 : (kvA dP (fun _ => D.bl true) (F ++ (circP n L ((i : Int), (j : Int))).take k)).length < sizeLine := by
            rw [kvA_len, List.length_append, List.length_take]
            exact sl_of (by omega)
          decreasing_trivial_pre_omega
          rw [hput]
          exact hK3 _ ⟨_, rfl⟩
      · refine hK2 _ ⟨by omega, F, .val (.int (j : Int)), s6, s7, hI.skip hn hL rfl rfl hin, ?_⟩
        rw [preR_out (hI.noroot hin)]
        simp only [Int.zero_add]
theorem h_made : ∀ ds P Xp, ds.length = M_made.length → F_made ds P Xp → t_made (bodyE P Xp) (startE M_made ds N_made.length) := by
  intro ds P Xp hlen_ h
  obtain ⟨n, L, rfl, hn, h100, hL, h⟩ := h
  have hn' : (0 : Int) < n := by omega
  have hnn : n * n ≤ 100 * 100 := Nat.mul_le_mul h100 h100
  (rw [e_made]; decreasing_trivial_pre_omega)
  refine while_inv (fun r e => ∃ F W s5 s6 s7, F.Nodup ∧ (∀ m ∈ F, Reach n L m) ∧ stayM ∈ F ∧ (∀ m ∈ W, m ∈ F) ∧ (∀ m ∈ F, m ∉ W → ∀ x ∈ L, thn n m x ∈ F) ∧ W.length ≤ F.length ∧ r + 2 * F.length = 2 * (8 * (n * n)) + W.length ∧
    e = [.val (.int n), .bor (.lst (L.map dM)), .val (dM stayM), .own (.dic true (kvM (.bl true) F)), .own (.lst (W.map dM)), s5, s6, s7]) (2 * (8 * (n * n)) - 1) ⟨[stayM], [stayM], _, _, _, by simp, by intro m hm; rw [List.mem_singleton.mp hm]; exact .stay, by simp, by simp, by simp, Nat.le_refl _, by have := Nat.mul_pos hn hn; simp; omega, rfl⟩ ?_
  rintro r e ⟨F, W, s5, s6, s7, hd, hr, hs, hw, hc, hwl, hm, rfl⟩ K hK
  decreasing_trivial_pre_omega
  refine ite_n (fun hne => ?_) fun he => ?_
  · have hW : W ≠ [] := fun e => hne (ne_nil_M.mpr e)
    obtain ⟨W', one, rfl⟩ : ∃ W' one, W = W' ++ [one] := ⟨_, _, (List.dropLast_concat_getLast hW).symm⟩
    have hp : ((W' ++ [one]).map dM)[((W' ++ [one]).map dM).length - 1]? = some (dM one) := by simp
    have hdr : ((W' ++ [one]).map dM).dropLast = W'.map dM := by simp
    have h1 : one ∈ F := hw one (by simp)
    decreasing_trivial_pre_omega
    rw [hdr]
    refine for_inv (fun rest e => ∃ F W s6 s7, F.Nodup ∧ (∀ m ∈ F, Reach n L m) ∧ stayM ∈ F ∧ one ∈ F ∧ (∀ m ∈ W, m ∈ F) ∧ (∀ m ∈ F, m ∉ W → m = one ∨ ∀ x ∈ L, thn n m x ∈ F) ∧ (∃ pre, L.map dM = pre.map dM ++ rest ∧ ∀ x ∈ pre, thn n one x ∈ F) ∧ W.length ≤ F.length ∧ r + 2 * F.length ≥ 2 * (8 * (n * n)) + W.length + 1 ∧
      e = [.val (.int n), .bor (.lst (L.map dM)), .val (dM stayM), .own (.dic true (kvM (.bl true) F)), .own (.lst (W.map dM)), .val (dM one), s6, s7]) ⟨F, W', _, _, hd, hr, hs, h1, fun m hm => hw m (by simp [hm]), fun m hm hmw => ?_, ⟨[], by simp, by simp⟩, by simp at hwl; omega, by simp at hm; omega, rfl⟩ ?_ ?_
    · by_cases e : m = one
      · exact .inl e
      · exact .inr (hc m hm (by simp [hmw, e]))
    · rintro e ⟨F, W, s6, s7, hd, hr, hs, h1, hw, hc, ⟨pre, hpre, hx⟩, hwl, hm, rfl⟩
      rw [List.append_nil] at hpre
      have hpre := mapM_inj.mp hpre
      subst hpre
      have hb := bound_M hd fun m hm => (hr m hm).ok hn
      refine hK (2 * (8 * (n * n)) + W.length - 2 * F.length) _ (by omega) ⟨F, W, _, _, _, hd, hr, hs, hw, fun m hm hmw => ?_, hwl, by omega, rfl⟩
      rcases hc m hm hmw with e | e
      · subst e; exact hx
      · exact e
    · rintro d rest e ⟨F, W, s6, s7, hd, hr, hs, h1, hw, hc, ⟨pre, hpre, hx⟩, hwl, hm, rfl⟩ K2 hK2
      obtain ⟨x, hxL, rfl, hpre2⟩ : ∃ x ∈ L, d = dM x ∧ L.map dM = (pre ++ [x]).map dM ++ rest := by
        have hmem : d ∈ L.map dM := by rw [hpre]; simp
        obtain ⟨x, hx, rfl⟩ := List.mem_map.mp hmem
        exact ⟨x, hx, rfl, by rw [hpre]; simp⟩
      have hb := bound_M hd fun m hm => (hr m hm).ok hn
      have hsl1 : (kvM (.bl true) F).length < sizeLine := by rw [kvM_len]; exact sl_of (by omega)
      have hsl2 : (W.map dM).length < sizeLine := by rw [List.length_map]; exact sl_of (by omega)
      decreasing_trivial_pre_omega
      refine ite_ni (fun hnot => ?_) fun hin => ?_
      · decreasing_trivial_pre_omega
        refine hK2 _ ⟨F ++ [thn n one x], W ++ [thn n one x], _, _, ?_, ?_, ?_, ?_, ?_, ?_, ⟨pre ++ [x], hpre2, ?_⟩, ?_, ?_, by rw [kvM_put hnot, List.map_append] <;> rfl⟩
        · rw [List.nodup_append]
          exact ⟨hd, by simp, fun a ha b hb e => hnot (by rw [List.mem_singleton] at hb; rw [← hb, ← e]; exact ha)⟩
        · intro m hm
          rcases List.mem_append.mp hm with hm | hm
          · exact hr m hm
          · rw [List.mem_singleton.mp hm]; exact .step (hr one h1) hxL
        · simp [hs]
        · simp [h1]
        · intro m hm
          rcases List.mem_append.mp hm with hm | hm
          · simp [hw m hm]
          · simp [List.mem_singleton.mp hm]
        · intro m hm hmw
          rcases List.mem_append.mp hm with hm | hm
          · rcases hc m hm (fun z => hmw (by simp [z])) with e | e
            · exact .inl e
            · exact .inr fun y hy => by simp [e y hy]
          · exact absurd (by simp [List.mem_singleton.mp hm]) hmw
        · intro y hy
          rcases List.mem_append.mp hy with hy | hy
          · simp [hx y hy]
          · rw [List.mem_singleton.mp hy]; simp
        · simp; omega
        · simp; omega
      · decreasing_trivial_pre_omega
        refine hK2 _ ⟨F, W, _, _, hd, hr, hs, h1, hw, hc, ⟨pre ++ [x], hpre2, ?_⟩, hwl, hm, rfl⟩
        intro y hy
        rcases List.mem_append.mp hy with hy | hy
        · exact hx y hy
        · rw [List.mem_singleton.mp hy]; exact hin
  · have hW : W = [] := ne_nil_M.mp he
    subst hW
    decreasing_trivial_pre_omega
    rw [sort_made hn hd hr hs fun m hm => hc m hm (by simp)]
    exact h
theorem h_most_had : ∀ ds P Xp, ds.length = M_most_had.length → F_most_had ds P Xp → t_most_had (bodyE P Xp) (startE M_most_had ds N_most_had.length) := by
  intro ds P Xp hlen_ h
  obtain ⟨n, f, C, rfl, h100, hf, hC, hne, hcl, h⟩ := h
  have hok := okN_cols hf C
  (rw [e_most_had]; decreasing_trivial_pre_omega)
  refine for_nat (fun i e => i ≤ C.length ∧ ∃ F s3 s4, HadI (colsL f (C.take i)) F ∧ F.length ≤ i ∧ e = [.val (cpD n f), .val (.lst (C.map dP)), .own (.dic false (kvA sgn (cntD (colsL f (C.take i))) F)), s3, s4, .emp, .emp]) ⟨by omega, [], _, _, HadI.zero, by simp, rfl⟩ ?_ ?_
  · rintro e ⟨_, F, s3, s4, hI, hFl, rfl⟩
    rw [List.length_map, List.take_length] at hI ⊢
    rw [List.length_map] at hFl
    have hcne : colsL f C ≠ [] := fun e => hne (by unfold colsL at e; rw [List.map_eq_nil_iff] at e; exact e)
    have hvals := had_vals (cs := colsL f C) (F := F)
    have hvne := had_vals_ne hI hcne
    refine ⟨_, _, rfl, hvals, hvne, fun m hm ht => ?_⟩
    decreasing_trivial_pre_omega
    refine lc_filter (ds := (kvA sgn (cntD (colsL f C)) F).map (·.1)) (cntQ (colsL f C) m) id (by rw [kvA_keys, List.length_map]; exact sle_of (by omega)) ?_ ?_
    · rw [kvA_keys, best_map, List.map_id]
      decreasing_trivial_pre_omega
      intro x T hM
      decreasing_trivial_pre_omega
      exact h x T m hM
    · intro d hd K N k1 k2
      rw [kvA_keys] at hd
      obtain ⟨x, hx, rfl⟩ := List.mem_map.mp hd
      rw [cntQ_sgn] at k1 k2
      have hat := had_at (cs := colsL f C) hx
      decreasing_trivial_pre_omega
      refine ite_c (fun e => ?_) fun e => ?_
      · decreasing_trivial_pre_omega
        exact k1 (decide_eq_true (D.int.inj (of_decide_eq_true e)))
      · exact k2 (decide_eq_false fun z => of_decide_eq_false e (by rw [z]))
  · rintro i d e hd ⟨hi, F, s3, s4, hI, hFl, rfl⟩ K hK
    rw [List.getElem?_map] at hd
    obtain ⟨p, hp, rfl⟩ := Option.map_eq_some_iff.mp hd
    have hil : i < C.length := (List.getElem?_eq_some_iff.mp hp).1
    obtain ⟨a0, a1, a2, a3⟩ := mem_allP.mp (hC p (List.mem_of_getElem? hp))
    obtain ⟨F', hI', hl', hput⟩ := hI.put (f p.1 p.2)
    have ec : colsL f (C.take i) ++ [f p.1 p.2] = colsL f (C.take (i + 1)) := by
      rw [take_snoc hp]; unfold colsL; rw [List.map_append]; rfl
    rw [ec] at hI' hput
    have hsl : (kvA sgn (cntD (colsL f (C.take i))) F).length < sizeLine := by rw [kvA_len]; exact sl_of (by omega)
    decreasing_trivial_pre_omega
    rw [hput]
    exact hK _ ⟨by omega, F', _, _, hI', by omega, rfl⟩
theorem h_with_colours : ∀ ds P Xp, ds.length = M_with_colours.length → F_with_colours ds P Xp → t_with_colours (bodyE P Xp) (startE M_with_colours ds N_with_colours.length) := by
  intro ds P Xp hlen_ h
  obtain ⟨n, L, f, rfl, hn, h100, hL, hf, h⟩ := h
  have hn' : (0 : Int) < n := by omega
  have hnn : n * n ≤ 100 * 100 := Nat.mul_le_mul h100 h100
  have hS := SM_Gs hn hL f
  unfold papD
  generalize hg : menF n L f = g at *
  (rw [e_with_colours]; decreasing_trivial_pre_omega)
  refine for_nat (fun i e => ∃ F s3 s4 s5 s6, GrI n L ((SM n L f).take i) [] F ∧ e = [.val (.int n), .val (.lst ((SM n L f).map (rowD n L f))), .own (.dic true (kvA dP (gD g) F)), s3, s4, s5, s6, .emp, .emp]) ⟨[], _, _, _, _, GrI.zero, rfl⟩ ?_ ?_
  · rintro e ⟨F, s3, s4, s5, s6, hI, rfl⟩
    rw [List.length_map, List.take_length] at hI
    decreasing_trivial_pre_omega
    rw [Int.toNat_natCast]
    refine lc_mapI (rowF n g) (fun e => ∃ s8, e = [.val (.int n), .val (.lst ((SM n L f).map (rowD n L f))), .own (.dic true (kvA dP (gD g) F)), s3, s4, s5, s6, .emp, s8]) (by rw [rg_len]; exact sle_of (by omega)) ⟨_, rfl⟩ ?_ ?_
    · rintro e ⟨s8, rfl⟩
      decreasing_trivial_pre_omega
      rw [rowF_cp]
      exact h
    · rintro d hd e ⟨s8, rfl⟩ K hK
      obtain ⟨i, hi, rfl⟩ := mem_rg hd
      decreasing_trivial_pre_omega
      rw [Int.toNat_natCast]
      refine lc_map (sgnF (g (0 + (i : Int)))) (by rw [rg_len]; exact sle_of (by omega)) ?_ ?_
      · decreasing_trivial_pre_omega
        exact hK _ ⟨_, rfl⟩
      · rintro d hd K2 hK2
        obtain ⟨j, hj, rfl⟩ := mem_rg hd
        have q : dget (kvA dP (gD g) F) (dPl (0 + (i : Int)) (0 + (j : Int))) = some (sgn (g (0 + (i : Int)) (0 + (j : Int)))) := hI.all hS (p := (0 + (i : Int), 0 + (j : Int))) (mem_at hi hj)
        decreasing_trivial_pre_omega
        exact hK2
  · rintro i d e hd ⟨F, s3, s4, s5, s6, hI, rfl⟩ K hK
    rw [List.getElem?_map] at hd
    obtain ⟨q, hq, rfl⟩ := Option.map_eq_some_iff.mp hd
    have hqS : q ∈ SM n L f := List.mem_of_getElem? hq
    have hqa := hS.inp q hqS
    decreasing_trivial_pre_omega
    refine for_nat (fun j e => ∃ F s6, GrI n L ((SM n L f).take i) ((circP n L q.1).take j) F ∧ e = [.val (.int n), .val (.lst ((SM n L f).map (rowD n L f))), .own (.dic true (kvA dP (gD g) F)), .val (dLP (circP n L q.1)), .val (sgn q.2), .val (.int (modeM (colsL f (circP n L q.1)) q.2)), s6, .emp, .emp]) ⟨F, _, hI, rfl⟩ ?_ ?_
    · rintro e ⟨F, s6, hI, rfl⟩
      rw [List.length_map, List.take_length] at hI
      have hI' := hI.next hn hqa
      rw [← take_snoc hq] at hI'
      exact hK _ ⟨F, _, _, _, _, hI', rfl⟩
    · rintro j d e hd2 ⟨F, s6, hI, rfl⟩ K2 hK2
      rw [List.getElem?_map] at hd2
      obtain ⟨p, hp, rfl⟩ := Option.map_eq_some_iff.mp hd2
      have hpc := mem_circP.mp (List.mem_of_getElem? hp)
      obtain ⟨F', hI', hput⟩ := hI.put (g := g) hpc.1
      have hgp : gD g p = sgn q.2 := by
        unfold gD
        rw [hS.eq q hqS p hpc.2]
      rw [hgp] at hput
      rw [← take_snoc hp] at hI'
      have hFl := hI.len
      have hsl : (kvA dP (gD g) F).length < sizeLine := by rw [kvA_len]; exact sl_of (by omega)
      decreasing_trivial_pre_omega
      rw [hput]
      exact hK2 _ ⟨F', _, hI', rfl⟩
theorem h_by_paper : ∀ ds P Xp, ds.length = M_by_paper.length → F_by_paper ds P Xp → t_by_paper (bodyE P Xp) (startE M_by_paper ds N_by_paper.length) := by
  intro ds P Xp hlen_ h
  obtain ⟨n, L, f, rfl, hn, h100, hL, hf, h⟩ := h
  have hnn : n * n ≤ 100 * 100 := Nat.mul_le_mul h100 h100
  have hgo := menF_ok (n := n) (L := L) hf
  unfold menD at h
  (rw [e_by_paper]; decreasing_trivial_pre_omega)
  generalize menF n L f = g at *
  refine for_nat (fun i e => i ≤ n ∧ ∃ s5 s6, e = [.val (cpD n f), .val (papD n L f), .val (.int n), .val (cpD n g), .own (.lst ((diffP n g f i).map dP)), s5, s6]) ⟨by omega, _, _, rfl⟩ ?_ ?_
  · rintro e ⟨_, s5, s6, rfl⟩
    rw [rg_len, Int.toNat_natCast, diffP_all]
    decreasing_trivial_pre_omega
    exact h
  · rintro i d e hd ⟨_, s5, s6, rfl⟩ K hK
    obtain ⟨hi, rfl⟩ := rg_get hd
    rw [Int.toNat_natCast] at hi
    have hdl := diffP_len n g f i
    have hin : i * n ≤ 100 * 100 := Nat.mul_le_mul (by omega) h100
    have hrow : (diffP n g f i).map dP ++ ((rgD 0 n).filter (rowQ g f (0 + (i : Int)))).map (rowP (0 + (i : Int))) = (diffP n g f (i + 1)).map dP := by rw [Int.zero_add]; exact diff_row n g f i
    decreasing_trivial_pre_omega
    rw [Int.toNat_natCast]
    refine lc_filter (rowQ g f (0 + (i : Int))) (rowP (0 + (i : Int))) (by rw [rg_len]; exact sle_of (by omega)) ?_ ?_
    · have hsl : ((diffP n g f i).map dP).length + (((rgD 0 n).filter (rowQ g f (0 + (i : Int)))).map (rowP (0 + (i : Int)))).length ≤ sizeLine := by
        rw [List.length_map, List.length_map]
        have := List.length_filter_le (rowQ g f (0 + (i : Int))) (rgD 0 n)
        rw [rg_len] at this
        exact sle_of (by omega)
      decreasing_trivial_pre_omega
      rw [hrow]
      exact hK _ ⟨by omega, _, _, rfl⟩
    · intro d hd2 K2 N k1 k2
      obtain ⟨j, hj, rfl⟩ := mem_rg hd2
      have k1 : decide (g (0 + (i : Int)) (0 + (j : Int)) ≠ f (0 + (i : Int)) (0 + (j : Int))) = true → _ := k1
      have k2 : decide (g (0 + (i : Int)) (0 + (j : Int)) ≠ f (0 + (i : Int)) (0 + (j : Int))) = false → _ := k2
      decreasing_trivial_pre_omega
      refine ite_n (fun hne => ?_) fun he => ?_
      · decreasing_trivial_pre_omega
        have k3 := k1 (decide_eq_true fun e => hne (by rw [e]))
        exact k3
      · have k3 := k2 (decide_eq_false fun z => z (sgn_inj' he))
        exact k3
theorem h_mended : ∀ ds P Xp, ds.length = M_mended.length → F_mended ds P Xp → t_mended (bodyE P Xp) (startE M_mended ds N_mended.length) := by
  intro ds P Xp hlen_ h
  obtain ⟨n, L, f, rfl, hn, h100, hL, hf, h⟩ := h
  have hnn : n * n ≤ 100 * 100 := Nat.mul_le_mul h100 h100
  have hrl := roots_len n L
  (rw [e_mended]; decreasing_trivial_pre_omega)
  refine for_nat (fun i e => ∃ s3 s4 s5, e = [.val (cpD n f), .bor (.lst (L.map dM)), .own (.lst (((SM n L f).take i).map (rowD n L f))), s3, s4, s5]) ⟨_, _, _, rfl⟩ ?_ ?_
  · rintro e ⟨s3, s4, s5, rfl⟩
    have e1 : ((rootsL n L).map fun p => dLP (circP n L p)).length = (SM n L f).length := by unfold SM; rw [List.length_map, List.length_map]
    rw [e1, List.take_length]
    show _
    decreasing_trivial_pre_omega
    exact h
  · rintro i d e hd ⟨s3, s4, s5, rfl⟩ K hK
    rw [List.getElem?_map] at hd
    obtain ⟨p, hp, rfl⟩ := Option.map_eq_some_iff.mp hd
    have hm := mem_rootsL.mp (List.mem_of_getElem? hp)
    have hq : (SM n L f)[i]? = some (p, modC n L f p) := by unfold SM; rw [List.getElem?_map, hp]; rfl
    have hcl : (circP n L p).length ≤ 100000 := by
      have : (circP n L p).length ≤ n * n := by rw [← allP_len n]; exact List.length_filter_le _ _
      omega
    have hcn : circP n L p ≠ [] := List.ne_nil_of_mem (circP_self hm.1)
    have hsl : (((SM n L f).take i).map (rowD n L f)).length < sizeLine := by
      have := SM_len n L f
      rw [List.length_map, List.length_take]
      exact sl_of (by omega)
    decreasing_trivial_pre_omega
    refine ⟨fun p hp => (mem_circP.mp hp).1, hcn, hcl, fun x T m hM => ?_⟩
    obtain ⟨e1, e2⟩ := modeX_eq (okN_cols hf _) hM
    have e3 : m = modeM (colsL f (circP n L p)) x := by rw [e2, ← e1]
    have heq : ((SM n L f).take (i + 1)).map (rowD n L f) = ((SM n L f).take i).map (rowD n L f) ++ [.tup [dLP (circP n L p), sgn x, .int m]] := by
      rw [take_snoc hq, List.map_append, e3]
      unfold modC
      rw [← e1]
      rfl
    have hat : L2.atI ((x :: T).map sgn) 0 = some (sgn x) := by rw [List.map_cons]; exact atI_of (j := 0) rfl rfl
    decreasing_trivial_pre_omega
    exact hK _ ⟨_, _, _, by rw [heq] <;> rfl⟩
theorem h_lattices : ∀ ds P Xp, ds.length = M_lattices.length → F_lattices ds P Xp → t_lattices (bodyE P Xp) (startE M_lattices ds N_lattices.length) := by
  intro ds P Xp hlen_ h
  obtain ⟨n, rfl, hn, h8, h⟩ := h
  have h100 : n ≤ 100 := by omega
  have hn' : (0 : Int) < n := by omega
  have hnn : n * n ≤ 3 * 3 := Nat.mul_le_mul h8 h8
  have hni : ((n : Nat) : Int) * (n : Nat) = ((n * n : Nat) : Int) := by push_cast; rfl
  (rw [e_lattices]; decreasing_trivial_pre_omega)
  rw [hni, Int.toNat_natCast]
  refine lc_map (fun d => match d with | .int i => dM ⟨.stay, i / n, i % n⟩ | _ => .non) (by rw [rg_len]; exact sle_of (by omega)) ?_ ?_
  · have e1 : (rgD 0 (n * n)).map (fun d => match d with | .int i => dM ⟨.stay, i / n, i % n⟩ | _ => .non) = (shvL n).map dM := shv_map n
    rw [e1]
    have hsl := shvL_len n
    decreasing_trivial_pre_omega
    refine for_nat (fun i e => i ≤ (shvL n).length ∧ ∃ (Lt : List Lat) (s4 s5 s6 s7 : VS.Slot), LatOk0 n Lt ∧ Lt.length ≤ i * 9 ∧ (∀ a ∈ (shvL n).take i, ∀ b ∈ shvL n, ∃ e ∈ Lt, e.2 = madeL n [a, b]) ∧
      e = [.val (.int n), .bor (.lst ((shvL n).map dM)), .own (.dix (latK Lt)), .own (.lst (Lt.map latD)), s4, s5, s6, s7, .emp, .emp]) ⟨by omega, [], _, _, _, _, latOk0_nil n, Nat.zero_le _, fun a ha => (by simp at ha), rfl⟩ ?_ ?_
    · rintro e ⟨_, Lt, s4, s5, s6, s7, h1, hLl, h2, rfl⟩
      rw [List.length_map, List.take_length] at h2
      rw [List.length_map] at hLl
      decreasing_trivial_pre_omega
      exact h Lt ⟨h1, fun a b ha hb ha2 hb2 => h2 a ((mem_shvL hn).mpr ⟨ha, ha2⟩) b ((mem_shvL hn).mpr ⟨hb, hb2⟩)⟩ (by omega)
    · rintro i d e hd ⟨_, Lt, s4, s5, s6, s7, h1, hLl, h2, rfl⟩ K hK
      rw [List.getElem?_map] at hd
      obtain ⟨a, ha, rfl⟩ := Option.map_eq_some_iff.mp hd
      have hi := (List.getElem?_eq_some_iff.mp ha).1
      have hao := (mem_shvL hn).mp (List.mem_of_getElem? ha)
      decreasing_trivial_pre_omega
      refine for_nat (fun j e => j ≤ (shvL n).length ∧ ∃ (Lt : List Lat) (s5 s6 s7 : VS.Slot), LatOk0 n Lt ∧ Lt.length ≤ i * 9 + j ∧ (∀ a ∈ (shvL n).take i, ∀ b ∈ shvL n, ∃ e ∈ Lt, e.2 = madeL n [a, b]) ∧ (∀ b ∈ (shvL n).take j, ∃ e ∈ Lt, e.2 = madeL n [a, b]) ∧
        e = [.val (.int n), .bor (.lst ((shvL n).map dM)), .own (.dix (latK Lt)), .own (.lst (Lt.map latD)), .val (dM a), s5, s6, s7, .emp, .emp]) ⟨by omega, Lt, _, _, _, h1, by omega, h2, fun b hb => (by simp at hb), rfl⟩ ?_ ?_
      · rintro e ⟨_, Lt, s5, s6, s7, h1, hLl, h2, h3, rfl⟩
        rw [List.length_map, List.take_length] at h3
        rw [List.length_map] at hLl
        refine hK _ ⟨by omega, Lt, _, _, _, _, h1, by omega, fun c hc b hb => ?_, rfl⟩
        rw [take_snoc ha] at hc
        rcases List.mem_append.mp hc with hc | hc
        · exact h2 c hc b hb
        · rw [List.mem_singleton.mp hc]; exact h3 b hb
      · rintro j d e hd2 ⟨_, Lt, s5, s6, s7, h1, hLl, h2, h3, rfl⟩ K2 hK2
        rw [List.getElem?_map] at hd2
        obtain ⟨b, hb, rfl⟩ := Option.map_eq_some_iff.mp hd2
        have hj := (List.getElem?_eq_some_iff.mp hb).1
        have hbo := (mem_shvL hn).mp (List.mem_of_getElem? hb)
        have hpr : [dM a, dM b] = [a, b].map dM := rfl
        have hno : ∀ m ∈ noStay [a, b], m.w = .stay ∧ m.ok n := fun m hm => by
          have := (List.mem_filter.mp hm).1
          simp only [List.mem_cons, List.not_mem_nil, or_false] at this
          rcases this with rfl | rfl
          · exact hao
          · exact hbo
        have hno2 : ∀ m ∈ noStay [a, b], m.ok n := fun m hm => (hno m hm).2
        have hnl : (noStay [a, b]).length ≤ 2 := List.length_filter_le _ _
        have hml := madeL_len (n := n) (noStay [a, b])
        have hms := made_noStay hn [a, b]
        decreasing_trivial_pre_omega
        rw [hpr]
        refine lc_filter (fun d => !decide (d = dM stayM)) id (by show 2 ≤ _; exact sle_of (by omega)) ?_ ?_
        · rw [List.map_id, ns_map]
          by_cases hin : madeL n (noStay [a, b]) ∈ Lt.map (·.2)
          · have z1 : decide (madeL n (noStay [a, b]) ∈ Lt.map (·.2)) = true := decide_eq_true hin
            decreasing_trivial_pre_omega
            refine hK2 _ ⟨by omega, Lt, _, _, _, h1, by omega, h2, fun b2 hb2 => ?_, rfl⟩
            rw [take_snoc hb] at hb2
            rcases List.mem_append.mp hb2 with hb2 | hb2
            · exact h3 b2 hb2
            · rw [List.mem_singleton.mp hb2]
              obtain ⟨q, hq, e⟩ := List.mem_map.mp hin
              exact ⟨q, hq, by rw [e, hms]⟩
          · have z1 : decide (madeL n (noStay [a, b]) ∈ Lt.map (·.2)) = false := decide_eq_false hin
            have hput := latK_put (e := (noStay [a, b], madeL n (noStay [a, b]))) hin
            have hkl := latK_len Lt
            have hsl1 : (latK Lt).length < sizeLine := sl_of (by omega)
            have hsl2 : (Lt.map latD).length < sizeLine := by rw [List.length_map]; exact sl_of (by omega)
            have hsl3 : ((madeL n (noStay [a, b])).map dM).length ≤ sizeLine := by rw [List.length_map]; exact sle_of (by omega)
            decreasing_trivial_pre_omega
            refine hK2 _ ⟨by omega, Lt ++ [(noStay [a, b], madeL n (noStay [a, b]))], _, _, _, fun q hq => ?_, by rw [List.length_append, List.length_singleton]; omega, fun c hc b2 hb2 => ?_, fun b2 hb2 => ?_, by rw [hput, List.map_append] <;> rfl⟩
            · rcases List.mem_append.mp hq with hq | hq
              · exact h1 q hq
              · rw [List.mem_singleton.mp hq]; exact ⟨hnl, hno, rfl⟩
            · obtain ⟨q, hq, e⟩ := h2 c hc b2 hb2
              exact ⟨q, List.mem_append_left _ hq, e⟩
            · rw [take_snoc hb] at hb2
              rcases List.mem_append.mp hb2 with hb2 | hb2
              · obtain ⟨q, hq, e⟩ := h3 b2 hb2
                exact ⟨q, List.mem_append_left _ hq, e⟩
              · rw [List.mem_singleton.mp hb2]
                exact ⟨_, List.mem_append_right _ (List.mem_singleton.mpr rfl), hms⟩
        · rintro d hd K3 N k1 k2
          obtain ⟨m, hm, rfl⟩ := List.mem_map.mp hd
          by_cases e : m = stayM
          · have e1 : decide (m = stayM) = true := decide_eq_true e
            have k2 := k2 (by rw [e]; simp)
            decreasing_trivial_pre_omega
            exact k2
          · have e1 : decide (m = stayM) = false := decide_eq_false e
            have k1 := k1 (by rw [decide_eq_false (fun z => e (dM_inj z))] <;> rfl)
            decreasing_trivial_pre_omega
            exact k1
  · rintro d hd K hK
    obtain ⟨j, hj, rfl⟩ := mem_rg hd
    decreasing_trivial_pre_omega
    exact hK
theorem h_lifts : ∀ ds P Xp, ds.length = M_lifts.length → F_lifts ds P Xp → t_lifts (bodyE P Xp) (startE M_lifts ds N_lifts.length) := by
  intro ds P Xp hlen_ h
  obtain ⟨n, H, S, rfl, hn, h8, hH, hSl, hS0, hS, h⟩ := h
  have h100 : n ≤ 100 := by omega
  have hn' : (0 : Int) < n := by omega
  have hnn : n * n ≤ 3 * 3 := Nat.mul_le_mul h8 h8
  (rw [e_lifts]; decreasing_trivial_pre_omega)
  rw [Int.toNat_natCast]
  refine for_nat (fun i e => i ≤ n ∧ ∃ F st s6 s7 s8 s9 s10, LI n S F st ∧ st.length ≤ i * 3 ∧ (∀ a b : Nat, a < i → b < n → ((a : Int), (b : Int)) ∈ F) ∧
    e = [.val (.int n), .val (.ktup (H.map fun w => D.str w.str)), .val (.lst (S.map dM)), .own (.lst [aD []]), .own (.lst (st.map dP)), .own (.dic true (kvA dP (fun _ => D.bl true) F)), s6, s7, s8, s9, s10, .emp, .emp]) ⟨by omega, [], [], _, _, _, _, _, LI.nil n S, by simp, by omega, rfl⟩ ?_ ?_
  · rintro e ⟨_, F, st, s6, s7, s8, s9, s10, hI, hst, hall, rfl⟩
    rw [rg_len] at hall hst
    have hok := hI.ok hall
    have hst9 : st.length ≤ 9 := by omega
    decreasing_trivial_pre_omega
    refine for_nat (fun i e => i ≤ H.length ∧ ∃ (A : List (List Mv)) (s3 s6 s7 s8 s11 s12 : VS.Slot), LiftOk n (H.take i) S A ∧ A.length ≤ 9 ^ i ∧ (s3 = .val (.lst (A.map aD)) ∨ s3 = .own (.lst (A.map aD))) ∧
      e = [.val (.int n), .val (.ktup (H.map fun w => D.str w.str)), .val (.lst (S.map dM)), s3, .own (.lst (st.map dP)), .own (.dic true (kvA dP (fun _ => D.bl true) F)), s6, s7, s8, s9, s10, s11, s12]) ⟨by omega, [[]], _, _, _, _, _, _, lift_nil n S, by decide, .inr rfl, rfl⟩ ?_ ?_
    · rintro e ⟨_, A, s3, s6, s7, s8, s11, s12, hA, hAl, hs3, rfl⟩
      rw [List.length_map, List.take_length] at hA
      have hA4 : A.length ≤ 81 := by
        rw [List.length_map] at hAl
        have : 9 ^ H.length ≤ 9 ^ 2 := Nat.pow_le_pow_right (by decide) hH
        omega
      rcases hs3 with rfl | rfl
      · decreasing_trivial_pre_omega
        exact h A _ hA hA4 (.inl rfl)
      · decreasing_trivial_pre_omega
        exact h A _ hA hA4 (.inr rfl)
    · rintro i d e hd ⟨_, A, s3, s6, s7, s8, s11, s12, hA, hAl, hs3, rfl⟩ K hK
      rw [List.getElem?_map] at hd
      obtain ⟨w, hw, rfl⟩ := Option.map_eq_some_iff.mp hd
      have hi := (List.getElem?_eq_some_iff.mp hw).1
      have hA2 := lift_step (w := w) hS hA hok
      rw [← take_snoc hw] at hA2
      have halen : ∀ a ∈ A, a.length ≤ 2 := fun a ha => by
        have := congrArg List.length (hA.each a ha).1
        rw [List.length_map, List.length_take] at this
        omega
      have hpw : A.length * st.length ≤ 9 ^ i * 9 := Nat.mul_le_mul hAl hst9
      have hpi : 9 ^ i * 9 ≤ 81 := by
        have : 9 ^ (i + 1) ≤ 9 ^ 2 := Nat.pow_le_pow_right (by decide) (by omega)
        rw [Nat.pow_succ] at this
        omega
      have hlenk : ∀ k, (liftS st w (A.take k)).length ≤ 81 := fun k => by
        have h1 := liftS_len st w (A.take k)
        have h2 : (A.take k).length * st.length ≤ A.length * st.length := Nat.mul_le_mul_right _ (by rw [List.length_take]; omega)
        omega
      have hlen2 : (liftS st w A).length ≤ 9 ^ (i + 1) := by
        rw [liftS_len, Nat.pow_succ]
        exact hpw
      rcases hs3 with rfl | rfl
      · decreasing_trivial_pre_omega
        refine for_nat (fun k e => k ≤ A.length ∧ ∃ (s6 s7 s12 : VS.Slot), e = [.val (.int n), .val (.ktup (H.map fun w => D.str w.str)), .val (.lst (S.map dM)), .val (.lst (A.map aD)), .own (.lst (st.map dP)), .own (.dic true (kvA dP (fun _ => D.bl true) F)), s6, s7, .val (.str w.str), s9, s10, .own (.lst ((liftS st w (A.take k)).map aD)), s12]) ⟨by omega, _, _, _, by rw [List.take_zero] <;> rfl⟩ ?_ ?_
        · rintro e ⟨_, s6, s7, s12, rfl⟩
          rw [List.length_map, List.take_length]
          decreasing_trivial_pre_omega
          exact hK _ ⟨by omega, liftS st w A, _, _, _, _, _, _, hA2, hlen2, .inl rfl, rfl⟩
        · rintro k d e hd2 ⟨_, s6, s7, s12, rfl⟩ K2 hK2
          rw [List.getElem?_map] at hd2
          obtain ⟨a, ha, rfl⟩ := Option.map_eq_some_iff.mp hd2
          have hk := (List.getElem?_eq_some_iff.mp ha).1
          have hal := halen a (List.mem_of_getElem? ha)
          have had : aD a = .lst (a.map dM) := rfl
          have hlk := hlenk k
          have hsz : ((liftS st w (A.take k)).map aD).length + (st.map dP).length ≤ sizeLine := by rw [List.length_map, List.length_map]; exact sle_of (by omega)
          have hsa : (a.map dM).length + 1 ≤ sizeLine := by rw [List.length_map]; exact sle_of (by omega)
          rw [had]
          decreasing_trivial_pre_omega
          refine lc_map (liftF a w) (by rw [List.length_map]; exact sle_of (by omega)) ?_ ?_
          · rw [lifts_map]
            have hsz3 : ((liftS st w (A.take k)).map aD).length + ((st.map fun p => a ++ [(⟨w, p.1, p.2⟩ : Mv)]).map aD).length ≤ sizeLine := by rw [List.length_map, List.length_map, List.length_map]; exact sle_of (by omega)
            have hsn := liftS_snoc (st := st) (w := w) ha
            decreasing_trivial_pre_omega
            exact hK2 _ ⟨by omega, _, _, _, by rw [hsn, List.map_append] <;> rfl⟩
          · rintro d hd K3 hK3
            obtain ⟨p, hp, rfl⟩ := List.mem_map.mp hd
            decreasing_trivial_pre_omega
            exact hK3
      · decreasing_trivial_pre_omega
        refine for_nat (fun k e => k ≤ A.length ∧ ∃ (s6 s7 s12 : VS.Slot), e = [.val (.int n), .val (.ktup (H.map fun w => D.str w.str)), .val (.lst (S.map dM)), .bor (.lst (A.map aD)), .own (.lst (st.map dP)), .own (.dic true (kvA dP (fun _ => D.bl true) F)), s6, s7, .val (.str w.str), s9, s10, .own (.lst ((liftS st w (A.take k)).map aD)), s12]) ⟨by omega, _, _, _, by rw [List.take_zero] <;> rfl⟩ ?_ ?_
        · rintro e ⟨_, s6, s7, s12, rfl⟩
          rw [List.length_map, List.take_length]
          decreasing_trivial_pre_omega
          exact hK _ ⟨by omega, liftS st w A, _, _, _, _, _, _, hA2, hlen2, .inl rfl, rfl⟩
        · rintro k d e hd2 ⟨_, s6, s7, s12, rfl⟩ K2 hK2
          rw [List.getElem?_map] at hd2
          obtain ⟨a, ha, rfl⟩ := Option.map_eq_some_iff.mp hd2
          have hk := (List.getElem?_eq_some_iff.mp ha).1
          have hal := halen a (List.mem_of_getElem? ha)
          have had : aD a = .lst (a.map dM) := rfl
          have hlk := hlenk k
          have hsz : ((liftS st w (A.take k)).map aD).length + (st.map dP).length ≤ sizeLine := by rw [List.length_map, List.length_map]; exact sle_of (by omega)
          have hsa : (a.map dM).length + 1 ≤ sizeLine := by rw [List.length_map]; exact sle_of (by omega)
          rw [had]
          decreasing_trivial_pre_omega
          refine lc_map (liftF a w) (by rw [List.length_map]; exact sle_of (by omega)) ?_ ?_
          · rw [lifts_map]
            have hsz3 : ((liftS st w (A.take k)).map aD).length + ((st.map fun p => a ++ [(⟨w, p.1, p.2⟩ : Mv)]).map aD).length ≤ sizeLine := by rw [List.length_map, List.length_map, List.length_map]; exact sle_of (by omega)
            have hsn := liftS_snoc (st := st) (w := w) ha
            decreasing_trivial_pre_omega
            exact hK2 _ ⟨by omega, _, _, _, by rw [hsn, List.map_append] <;> rfl⟩
          · rintro d hd K3 hK3
            obtain ⟨p, hp, rfl⟩ := List.mem_map.mp hd
            decreasing_trivial_pre_omega
            exact hK3
  · rintro i d e hd ⟨_, F, st, s6, s7, s8, s9, s10, hI, hst, hall, rfl⟩ K hK
    obtain ⟨hi, rfl⟩ := rg_get hd
    rw [Int.zero_add]
    decreasing_trivial_pre_omega
    rw [Int.toNat_natCast]
    refine for_nat (fun j e => j ≤ n ∧ ∃ F st s7 s8 s9 s10, LI n S F st ∧ st.length ≤ i * 3 + j ∧ (∀ a b : Nat, a < i → b < n → ((a : Int), (b : Int)) ∈ F) ∧ (∀ b : Nat, b < j → ((i : Int), (b : Int)) ∈ F) ∧
      e = [.val (.int n), .val (.ktup (H.map fun w => D.str w.str)), .val (.lst (S.map dM)), .own (.lst [aD []]), .own (.lst (st.map dP)), .own (.dic true (kvA dP (fun _ => D.bl true) F)), .val (.int (i : Nat)), s7, s8, s9, s10, .emp, .emp]) ⟨by omega, F, st, _, _, _, _, hI, by omega, hall, by omega, rfl⟩ ?_ ?_
    · rintro e ⟨_, F, st, s7, s8, s9, s10, hI, hst, hall, hrow, rfl⟩
      rw [rg_len] at hrow hst
      refine hK _ ⟨by omega, F, st, _, _, _, _, _, hI, by omega, fun a b ha hb => ?_, rfl⟩
      by_cases e : a = i
      · subst e; exact hrow b hb
      · exact hall a b (by omega) hb
    · rintro j d e hd2 ⟨_, F, st, s7, s8, s9, s10, hI, hst, hall, hrow, rfl⟩ K2 hK2
      obtain ⟨hj, rfl⟩ := rg_get hd2
      rw [Int.zero_add]
      have hFl := hI.len
      have hpin : (((i : Nat) : Int), ((j : Nat) : Int)) ∈ allP n := mem_allP.mpr ⟨by omega, by omega, by omega, by omega⟩
      have hsl1 : (st.map dP).length < sizeLine := by rw [List.length_map]; exact sl_of (by omega)
      by_cases hin : (((i : Nat) : Int), ((j : Nat) : Int)) ∈ F
      · have z1 : decide ((((i : Nat) : Int), ((j : Nat) : Int)) ∈ F) = true := decide_eq_true hin
        decreasing_trivial_pre_omega
        refine hK2 _ ⟨by omega, F, st, _, _, _, _, hI, by omega, hall, fun b hb => ?_, rfl⟩
        by_cases e : b = j
        · subst e; exact hin
        · exact hrow b (by omega)
      · have z1 : decide ((((i : Nat) : Int), ((j : Nat) : Int)) ∈ F) = false := decide_eq_false hin
        decreasing_trivial_pre_omega
        refine for_nat (fun k e => k ≤ S.length ∧ ∃ F2 s8 s9 s10, LI n S F2 (st ++ [((i : Int), (j : Int))]) ∧ (∀ p ∈ F, p ∈ F2) ∧ (∀ s ∈ S.take k, shfP n ((i : Int), (j : Int)) s ∈ F2) ∧
          e = [.val (.int n), .val (.ktup (H.map fun w => D.str w.str)), .val (.lst (S.map dM)), .own (.lst [aD []]), .own (.lst ((st ++ [((i : Int), (j : Int))]).map dP)), .own (.dic true (kvA dP (fun _ => D.bl true) F2)), .val (.int (i : Nat)), .val (.int (j : Nat)), s8, s9, s10, .emp, .emp]) ⟨by omega, F, _, _, _, hI.start hpin, fun p hp => hp, fun s hs => (by simp at hs), by rw [List.map_append] <;> rfl⟩ ?_ ?_
        · rintro e ⟨_, F2, s8, s9, s10, hI2, hsub, hsh, rfl⟩
          rw [List.length_map, List.take_length] at hsh
          refine hK2 _ ⟨by omega, F2, _, _, _, _, _, hI2, by rw [List.length_append, List.length_singleton]; omega, fun a b ha hb => hsub _ (hall a b ha hb), fun b hb => ?_, rfl⟩
          by_cases e : b = j
          · subst e
            have := hsh stayM hS0
            rw [shfP_stay hpin] at this
            exact this
          · exact hsub _ (hrow b (by omega))
        · rintro k d e hd3 ⟨_, F2, s8, s9, s10, hI2, hsub, hsh, rfl⟩ K3 hK3
          rw [List.getElem?_map] at hd3
          obtain ⟨s, hs, rfl⟩ := Option.map_eq_some_iff.mp hd3
          have hk := (List.getElem?_eq_some_iff.mp hs).1
          have hF2l := hI2.len
          have hsl2 : (kvA dP (fun _ => D.bl true) F2).length < sizeLine := by rw [kvA_len]; exact sl_of (by omega)
          have hI3 := hI2.put hn (p := ((i : Int), (j : Int))) (by simp) (List.mem_of_getElem? hs)
          have hpd := kvP_insD (n := n) (F := F2) (a := (i : Int)) (b := (j : Int)) (d := s.d) (r := s.r)
          decreasing_trivial_pre_omega
          refine hK3 _ ⟨by omega, _, _, _, _, hI3, fun p hp => mem_insP.mpr (.inl (hsub p hp)), fun t ht => ?_, by rw [hpd] <;> rfl⟩
          rw [take_snoc hs] at ht
          rcases List.mem_append.mp ht with ht | ht
          · exact mem_insP.mpr (.inl (hsh t ht))
          · rw [List.mem_singleton.mp ht]; exact mem_insP.mpr (.inr rfl)
theorem h_divisor : ∀ ds P Xp, ds.length = M_divisor.length → F_divisor ds P Xp → t_divisor (bodyE P Xp) (startE M_divisor ds N_divisor.length) := by
  intro ds P Xp hlen_ h
  obtain ⟨xs, rfl, hx, h⟩ := h
  (rw [e_divisor]; decreasing_trivial_pre_omega)
  refine for_nat (fun i e => i ≤ xs.length ∧ ∃ s2 s3, e = [.val (.lst (xs.map fun x => D.int ((x : Nat) : Int))), .val (.int (((xs.take i).foldl Nat.gcd 0 : Nat) : Int)), s2, s3]) ⟨by omega, _, _, by rw [List.take_zero] <;> rfl⟩ ?_ ?_
  · rintro e ⟨_, s2, s3, rfl⟩
    rw [List.length_map, List.take_length]
    decreasing_trivial_pre_omega
    exact h
  · rintro i d e hd ⟨_, s2, s3, rfl⟩ K hK
    rw [List.getElem?_map] at hd
    obtain ⟨x, hxi, rfl⟩ := Option.map_eq_some_iff.mp hd
    have hi := (List.getElem?_eq_some_iff.mp hxi).1
    rw [take_snoc hxi, List.foldl_append, List.foldl_cons, List.foldl_nil] at hK
    generalize (xs.take i).foldl Nat.gcd 0 = g at *
    decreasing_trivial_pre_omega
    refine while_inv (fun m e => ∃ a : Nat, Nat.gcd a m = Nat.gcd g x ∧ e = [.val (.lst (xs.map fun x => D.int ((x : Nat) : Int))), .val (.int (a : Nat)), .val (.int (x : Nat)), .val (.int (m : Nat))]) x ⟨g, rfl, rfl⟩ ?_
    rintro m e ⟨a, ha, rfl⟩ K2 hK2
    cases m with
    | zero =>
      have hz : ¬ (0 : Int) < ((0 : Nat) : Int) := by decide
      rw [Nat.gcd_zero_right] at ha
      decreasing_trivial_pre_omega
      refine hK _ ⟨by omega, _, _, by rw [ha] <;> rfl⟩
    | succ m =>
      have hz : (0 : Int) < ((m + 1 : Nat) : Int) := by omega
      decreasing_trivial_pre_omega
      refine hK2 (a % (m + 1)) _ (Nat.mod_lt _ (by omega)) ⟨m + 1, ?_, by rw [Int.natCast_emod] <;> rfl⟩
      rw [← ha, Nat.gcd_comm a, Nat.gcd_rec (m + 1) a, Nat.gcd_comm]
theorem h_all_groups : ∀ ds P Xp, ds.length = M_all_groups.length → F_all_groups ds P Xp → t_all_groups (bodyE P Xp) (startE M_all_groups ds N_all_groups.length) := by
  intro ds P Xp hlen_ h
  obtain ⟨n, rfl, hn, h8, h⟩ := h
  have h100 : n ≤ 100 := by omega
  have hn' : (0 : Int) < n := by omega
  have hnn : n * n ≤ 3 * 3 := Nat.mul_le_mul h8 h8
  (rw [e_all_groups]; decreasing_trivial_pre_omega)
  intro Lt hLt hLl
  decreasing_trivial_pre_omega
  refine for_nat (fun i e => i ≤ Lt.length ∧ ∃ (G : List Grp) (s2 s3 s4 s5 s6 : VS.Slot), GrpI n G (fun e k => e ∈ Lt.take i) ∧ G.length ≤ i * 810 ∧ e = [.val (.int n), .own (.lst (G.map grpD)), s2, s3, s4, s5, s6]) ⟨by omega, [], _, _, _, _, _, GrpI.nil n (fun e k h => by simp at h), Nat.zero_le _, rfl⟩ ?_ ?_
  · rintro e ⟨_, G, s2, s3, s4, s5, s6, hG, hGl, rfl⟩
    rw [List.length_map, List.take_length] at hG
    decreasing_trivial_pre_omega
    exact h G (hG.ok hLt)
  · rintro i d e hd ⟨_, G, s2, s3, s4, s5, s6, hG, hGl, rfl⟩ K hK
    rw [List.getElem?_map] at hd
    obtain ⟨q, hq, rfl⟩ := Option.map_eq_some_iff.mp hd
    have hi := (List.getElem?_eq_some_iff.mp hq).1
    have hqm := List.mem_of_getElem? hq
    obtain ⟨q1, q2, q3⟩ := hLt.each q hqm
    have hqD : latD q = .tup [.lst (q.1.map dM), .lst (q.2.map dM)] := rfl
    rw [hqD]
    have hHd : K_HEADS = .ktup (headW.map hdWD) := rfl
    have hHs : K_HEAD_SIZES = .ktup (sizeW.map fun z => .int (z : Nat)) := rfl
    have hst : ∀ s ∈ q.2, s.w = .stay := by rw [q3]; exact made_stays hn fun m hm => (q2 m hm).1
    have hs0 : stayM ∈ q.2 := by rw [q3]; exact stay_made hn _
    have hsl : q.2.length ≤ 1000 := by
      have := madeL_len (n := n) q.1
      rw [← q3] at this
      omega
    decreasing_trivial_pre_omega
    refine for_nat (fun j e => j ≤ 10 ∧ ∃ (G : List Grp) (s4 s5 s6 : VS.Slot), GrpI n G (fun e k => e ∈ Lt.take i ∨ (e = q ∧ k < j)) ∧ G.length ≤ i * 810 + j * 81 ∧ e = [.val (.int n), .own (.lst (G.map grpD)), .val (.lst (q.1.map dM)), .val (.lst (q.2.map dM)), s4, s5, s6]) ⟨by omega, G, _, _, _, ⟨hG.each, fun e k hk => hG.all e k (by rcases hk with hk | ⟨_, hk⟩ <;> first | exact hk | omega)⟩, by omega, rfl⟩ ?_ ?_
    · rintro e ⟨_, G, s4, s5, s6, hG, hGl, rfl⟩
      rw [enuD_len] at hG hGl
      refine hK _ ⟨by omega, G, _, _, _, _, _, ⟨hG.each, fun e k hk X hX ok => hG.all e k ?_ X hX ok⟩, ?_, rfl⟩
      · rw [take_snoc hq] at hk
        rcases List.mem_append.mp hk with hk | hk
        · exact .inl hk
        · exact .inr ⟨List.mem_singleton.mp hk, (List.getElem?_eq_some_iff.mp hX).1⟩
      · have : (i + 1) * 810 = i * 810 + 10 * 81 := by omega
        exact this ▸ hGl
    · rintro j d e hd ⟨_, G, s4, s5, s6, hG, hGl, rfl⟩ K hK
      obtain ⟨x, hx, rfl⟩ := enuD_get hd
      obtain ⟨H, hH, rfl⟩ : ∃ H, headW[j]? = some H ∧ hdWD H = x := by
        have hx : (headW.map hdWD)[j]? = some x := hx
        rw [List.getElem?_map] at hx
        exact Option.map_eq_some_iff.mp hx
      have hj := (List.getElem?_eq_some_iff.mp hH).1
      have hHl : H.length ≤ 2 := (by decide : ∀ H ∈ headW, H.length ≤ 2) H (List.mem_of_getElem? hH)
      obtain ⟨z, hz⟩ : ∃ z, sizeW[j]? = some z := ⟨_, List.getElem?_eq_getElem (show j < sizeW.length from hj)⟩
      unfold hdWD
      decreasing_trivial_pre_omega
      intro A rv hA hAl hrv
      have hj10 : j < 10 := hj
      have hnj : ((0 + j : Nat) : Int) = (j : Nat) := by omega
      have hat : atI (sizeW.map fun z => D.int (z : Nat)) ((0 + j : Nat) : Int) = some (.int (z : Nat)) := by
        rw [Nat.zero_add]
        exact VS.atI_nat (by rw [List.getElem?_map, hz]; rfl)
      have hq2 : q.1.length ≤ 2 := q1
      have hal : ∀ a ∈ A, a.length ≤ 2 := fun a ha => by
        have := congrArg List.length (hA.each a ha).1
        rw [List.length_map] at this
        omega
      rcases hrv with rfl | rfl
      all_goals
        decreasing_trivial_pre_omega
        refine for_nat (fun t e => t ≤ A.length ∧ ∃ s6 : VS.Slot, e = [.val (.int n), .own (.lst ((G ++ (A.take t).map fun a => (q.1 ++ a, z)).map grpD)), .val (.lst (q.1.map dM)), .val (.lst (q.2.map dM)), .val (.int ((0 + j : Nat) : Int)), .val (.ktup (H.map fun w => D.str w.str)), s6]) ⟨by omega, s6, by rw [List.take_zero, List.map_nil, List.append_nil] <;> rfl⟩ ?_ ?_
        · rintro e ⟨_, s6, rfl⟩
          rw [List.length_map, List.take_length]
          refine hK _ ⟨by omega, _, _, _, _, hG.step hH hz ⟨q1, q2, q3⟩ hA fun e' k' hk => ?_, ?_, rfl⟩
          · rcases hk with hk | ⟨hk, hk2⟩
            · exact .inl (.inl hk)
            · by_cases e5 : k' = j
              · exact .inr ⟨hk, e5⟩
              · exact .inl (.inr ⟨hk, by omega⟩)
          · rw [List.length_append, List.length_map]
            omega
        · rintro t d e hd ⟨_, s6, rfl⟩ K2 hK2
          rw [List.getElem?_map] at hd
          obtain ⟨a, ha, rfl⟩ := Option.map_eq_some_iff.mp hd
          have ht := (List.getElem?_eq_some_iff.mp ha).1
          have hal2 := hal a (List.mem_of_getElem? ha)
          have hGt : (G ++ (A.take t).map fun a => (q.1 ++ a, z)).length ≤ 1000000 := by
            rw [List.length_append, List.length_map, List.length_take]
            omega
          unfold aD
          rw [hHs]
          decreasing_trivial_pre_omega
          refine ⟨sl_of (by rw [List.length_map]; exact hGt), ?_⟩
          decreasing_trivial_pre_omega
          refine hK2 _ ⟨by omega, .val (.lst (a.map dM)), ?_⟩
          rw [take_snoc ha]
          simp only [List.map_append, List.append_assoc, List.map_cons, List.map_nil, grpD]


theorem h_bettered : ∀ ds P Xp, ds.length = M_bettered.length → F_bettered ds P Xp → t_bettered (bodyE P Xp) (startE M_bettered ds N_bettered.length) := by
  intro ds P Xp hlen_ h
  obtain ⟨n, f, most, rfl, hn, h100, hf, hm0, hx, h⟩ := h
  have hn' : (0 : Int) < n := by omega
  by_cases h3 : 3 < n
  · have h3' : (3 : Int) < n := by omega
    have hx := hx h3
    (rw [e_bettered]; decreasing_trivial_pre_omega)
    exact hx
  have h3' : ¬ (3 : Int) < n := by omega
  have h3n : n ≤ 3 := by omega
  have h := h h3n
  have hnn : n * n ≤ 3 * 3 := Nat.mul_le_mul h3n h3n
  (rw [e_bettered]; decreasing_trivial_pre_omega)
  intro G hG
  have h := fun few => h G few hG
  decreasing_trivial_pre_omega
  refine for_nat (fun i e => i ≤ G.length ∧ ∃ (few : List Mv) (s4 s5 s6 s7 s8 s9 : VS.Slot), BestI n f most (· ∈ G.take i) few ∧ e = [.val (cpD n f), .val (.int most), .val (.int n), .val (.tup [.int ((szM n few : Nat) : Int), .int ((chg n few f : Nat) : Int), .lst (few.map dM)]), s4, s5, s6, s7, s8, s9, .emp]) ⟨by omega, [], _, _, _, _, _, _, ⟨by simp, by simp, by rw [chg_nil hn hf]; exact hm0, by simp⟩, by rw [chg_nil hn hf, szM, made_nil hn] <;> rfl⟩ ?_ ?_
  · rintro e ⟨_, few, s4, s5, s6, s7, s8, s9, hB, rfl⟩
    rw [List.length_map, List.take_length] at hB
    have hfo := hB.ok
    have h := h few hB
    decreasing_trivial_pre_omega
    exact h
  · rintro i d e hd ⟨_, few, s4, s5, s6, s7, s8, s9, hB, rfl⟩ K hK
    rw [List.getElem?_map] at hd
    obtain ⟨g, hg, rfl⟩ := Option.map_eq_some_iff.mp hd
    have hi := (List.getElem?_eq_some_iff.mp hg).1
    have hgi := hG.each g (List.mem_of_getElem? hg)
    obtain ⟨g1, g2, g3⟩ := grp_few hgi
    have hgD : grpD g = .tup [.lst (g.1.map dM), .int (g.2 : Nat)] := rfl
    rw [hgD]
    have hrl := roots_len n g.1
    have hcl : ∀ p, (circP n g.1 p).length ≤ 9 := fun p => by
      have : (circP n g.1 p).length ≤ n * n := by rw [← allP_len n]; exact List.length_filter_le _ _
      omega
    decreasing_trivial_pre_omega
    refine lc_map (mhF f) (by rw [List.length_map]; exact sle_of (by omega)) ?_ ?_
    · rw [mh_map]
      decreasing_trivial_pre_omega
      rw [men_sum hn g2 f, show (n : Int) * n - ((n : Int) * n - ((diffL n (menF n g.1 f) f).length : Int)) = ((chg n g.1 f : Nat) : Int) by unfold chg; omega]
      decreasing_trivial_pre_omega
      refine lc_map lnF (by rw [List.length_map]; exact sle_of (by omega)) ?_ ?_
      · rw [ln_map]
        have hl9 : ∀ x ∈ lensL n g.1, x ≤ 9 := fun x hx => by
          obtain ⟨p, _, rfl⟩ := List.mem_map.mp hx
          exact hcl p
        decreasing_trivial_pre_omega
        refine ⟨fun x hx => Nat.le_trans (hl9 x hx) (by decide), ?_⟩
        have hd9 := gcd_le9 (lensL n g.1) 0 (by decide) hl9
        have hbn : ((g.2 : Nat) : Int) * (((lensL n g.1).foldl Nat.gcd 0 : Nat) : Int) = ((bnd n g : Nat) : Int) := by unfold bnd; rw [Int.natCast_mul]
        generalize (lensL n g.1).foldl Nat.gcd 0 = dv at hd9 hbn
        have hg8 : ((g.2 : Nat) : Int) ≤ 8 := by omega
        have hdv : ((dv : Nat) : Int) ≤ 9 := by omega
        decreasing_trivial_pre_omega
        rw [hbn]
        have keepK : ∀ s4 s5 s6 s7 s8 s9, ((chg n g.1 f : Int) ≤ most → ¬ btr n f few (bnd n g) g.1 ∨ ¬ btr n f few (szM n g.1) g.1) → K [.val (cpD n f), .val (.int most), .val (.int n), .val (.tup [.int ((szM n few : Nat) : Int), .int ((chg n few f : Nat) : Int), .lst (few.map dM)]), s4, s5, s6, s7, s8, s9, .emp] :=
          fun s4 s5 s6 s7 s8 s9 hk => hK _ ⟨by omega, few, s4, s5, s6, s7, s8, s9, hB.keep hg hk, rfl⟩
        have newK : ∀ s4 s5 s6 s7 s8 s9, (chg n g.1 f : Int) ≤ most → btr n f few (szM n g.1) g.1 → K [.val (cpD n f), .val (.int most), .val (.int n), .val (.tup [.int ((szM n g.1 : Nat) : Int), .int ((chg n g.1 f : Nat) : Int), .lst (g.1.map dM)]), s4, s5, s6, s7, s8, s9, .emp] :=
          fun s4 s5 s6 s7 s8 s9 hk hk2 => hK _ ⟨by omega, g.1, s4, s5, s6, s7, s8, s9, hB.new hg hgi hk hk2, rfl⟩
        clear hK hd9 hbn hg8 hdv
        unfold btr at keepK newK
        have hml : (((madeL n g.1).map dM).length : Int) = ((szM n g.1 : Nat) : Int) := by rw [List.length_map]; rfl
        generalize bnd n g = B1 at keepK ⊢
        generalize chg n g.1 f = C1 at keepK newK ⊢
        generalize chg n few f = C0 at keepK newK ⊢
        generalize szM n few = S0 at keepK newK ⊢
        generalize szM n g.1 = S1 at keepK newK hml ⊢
        by_cases q1 : (C1 : Int) ≤ most
        rotate_left
        · decreasing_trivial_pre_omega
          exact keepK _ _ _ _ _ _ fun z => absurd z q1
        by_cases q2 : (S0 : Int) < B1
        · decreasing_trivial_pre_omega
          rw [hml]
          by_cases r2 : (S0 : Int) < S1
          · decreasing_trivial_pre_omega
            exact newK _ _ _ _ _ _ q1 (by omega)
          by_cases r3 : (S1 : Int) = S0
          rotate_left
          · decreasing_trivial_pre_omega
            exact keepK _ _ _ _ _ _ fun _ => .inr (by omega)
          by_cases r4 : (C1 : Int) < C0
          rotate_left
          · decreasing_trivial_pre_omega
            exact keepK _ _ _ _ _ _ fun _ => .inr (by omega)
          · decreasing_trivial_pre_omega
            exact newK _ _ _ _ _ _ q1 (by omega)
        · by_cases q3 : (B1 : Int) = S0
          rotate_left
          · decreasing_trivial_pre_omega
            exact keepK _ _ _ _ _ _ fun _ => .inl (by omega)
          by_cases q4 : (C1 : Int) < C0
          rotate_left
          · decreasing_trivial_pre_omega
            exact keepK _ _ _ _ _ _ fun _ => .inl (by omega)
          decreasing_trivial_pre_omega
          rw [hml]
          by_cases r2 : (S0 : Int) < S1
          · decreasing_trivial_pre_omega
            exact newK _ _ _ _ _ _ q1 (by omega)
          by_cases r3 : (S1 : Int) = S0
          rotate_left
          · decreasing_trivial_pre_omega
            exact keepK _ _ _ _ _ _ fun _ => .inr (by omega)
          decreasing_trivial_pre_omega
          exact newK _ _ _ _ _ _ q1 (by omega)
      · intro d hd K2 hK2
        obtain ⟨p, hp, rfl⟩ := List.mem_map.mp hd
        have e5 : lnF (dLP (circP n g.1 p)) = .int ((circP n g.1 p).length : Nat) := by unfold lnF; rw [plsD_dLP]
        rw [e5] at hK2
        have hcp := hcl p
        decreasing_trivial_pre_omega
        rw [List.length_map]
        exact hK2
    · intro d hd K2 hK2
      obtain ⟨p, hp, rfl⟩ := List.mem_map.mp hd
      have hm := mem_rootsL.mp hp
      have hcn : circP n g.1 p ≠ [] := List.ne_nil_of_mem (circP_self hm.1)
      have hcp := hcl p
      decreasing_trivial_pre_omega
      refine ⟨fun p hp => (mem_circP.mp hp).1, hcn, by omega, fun x T m hM => ?_⟩
      obtain ⟨e1, e2⟩ := modeX_eq (okN_cols hf _) hM
      have e3 : m = modeM (colsL f (circP n g.1 p)) x := by rw [e2, ← e1]
      have e5 : mhF f (dLP (circP n g.1 p)) = .int m := by unfold mhF; rw [plsD_dLP, ← e1, ← e3]
      rw [e5] at hK2
      decreasing_trivial_pre_omega
      exact hK2

theorem h_L_cell_at : ∀ ds P Xp, ds.length = M_L_cell_at.length → F_L_cell_at ds P Xp → t_L_cell_at (bodyE P Xp) (startE M_L_cell_at ds N_L_cell_at.length) := by
  intro ds P Xp hlen_ h
  obtain ⟨ns, k, rfl, h0, h⟩ := h
  have hll : (ns.map D.int).length = ns.length := List.length_map ..
  by_cases hk : k < (ns.map D.int).length
  · have hc := cellAt_get (ns := ns) h0 (by rw [List.length_map] at hk; exact hk)
    (rw [e_L_cell_at]; decreasing_trivial_pre_omega)
    exact h
  · rw [cellAt_out (by rw [List.length_map] at hk; exact hk)] at h
    (rw [e_L_cell_at]; decreasing_trivial_pre_omega)
    exact h
theorem h_L_whole : ∀ ds P Xp, ds.length = M_L_whole.length → F_L_whole ds P Xp → t_L_whole (bodyE P Xp) (startE M_L_whole ds N_L_whole.length) := by
  intro ds P Xp hlen_ h
  obtain ⟨n, rfl, h⟩ := h
  (rw [e_L_whole]; decreasing_trivial_pre_omega)
  exact h
theorem h_L_mixed : ∀ ds P Xp, ds.length = M_L_mixed.length → F_L_mixed ds P Xp → t_L_mixed (bodyE P Xp) (startE M_L_mixed ds N_L_mixed.length) := by
  intro ds P Xp hlen_ h
  obtain ⟨c, k, rfl, h0, h1, h⟩ := h
  have hb := kk_bound h0 h1
  have hb2 : 0 ≤ 2 * k ∧ 2 * k ≤ 2000 := by omega
  (rw [e_L_mixed]; decreasing_trivial_pre_omega)
  exact h _ (Int.emod_nonneg _ (by decide)) (Int.emod_lt_of_pos _ (by decide))
theorem h_L_led : ∀ ds P Xp, ds.length = M_L_led.length → F_L_led ds P Xp → t_L_led (bodyE P Xp) (startE M_L_led ds N_L_led.length) := by
  intro ds P Xp hlen_ h
  obtain ⟨n, ⟨w, d, r⟩, y, x, rfl, hn, h⟩ := h
  simp only [lR, lC] at h
  cases w <;> (simp only [gR, gC] at h; simp only [dM_stay', dM_turn', dM_half', dM_back', dM_side, dM_flip, dM_cross, dM_other, ← Int.zero_sub] at *; rw [e_L_led]; decreasing_trivial_pre_omega; exact h)
theorem h_L_moved : ∀ ds P Xp, ds.length = M_L_moved.length → F_L_moved ds P Xp → t_L_moved (bodyE P Xp) (startE M_L_moved ds N_L_moved.length) := by
  intro ds P Xp hlen_ h
  obtain ⟨n, f, m, rfl, hn, h100, hok, h⟩ := h
  have hn' : (0 : Int) < n := by omega
  (rw [e_L_moved]; decreasing_trivial_pre_omega)
  refine for_nat (fun i e => i ≤ n ∧ ∃ kvs s4 s5, kvs.length ≤ i * n ∧ (∀ r c : Int, 0 ≤ r → r < i → 0 ≤ c → c < n → dget kvs (dPl (lR n m.w m.d r c) (lC n m.w m.r r c)) = some (sgn (f r c))) ∧ e = [.val (cpD n f), .val (dM m), .val (.int n), .own (.dic true kvs), s4, s5]) ⟨by omega, [], _, _, by simp, by intros; omega, rfl⟩ ?_ ?_
  · rintro e ⟨_, kvs, s4, s5, hl, hg, rfl⟩
    rw [rg_len, Int.toNat_natCast] at hg
    decreasing_trivial_pre_omega
    rw [Int.toNat_natCast]
    refine lc_mapI (rowF n (movF n m f)) (fun e => ∃ s5, e = [.val (cpD n f), .val (dM m), .val (.int n), .own (.dic true kvs), .emp, s5]) (by rw [rg_len]; exact sle_of (by omega)) ⟨_, rfl⟩ ?_ ?_
    · rintro e ⟨s5, rfl⟩
      decreasing_trivial_pre_omega
      rw [rowF_cp]
      exact h
    · rintro d hd e ⟨s5, rfl⟩ K hK
      obtain ⟨i, hi, rfl⟩ := mem_rg hd
      decreasing_trivial_pre_omega
      rw [Int.toNat_natCast]
      refine lc_map (sgnF (movF n m f (0 + (i : Int)))) (by rw [rg_len]; exact sle_of (by omega)) ?_ ?_
      · decreasing_trivial_pre_omega
        exact hK _ ⟨_, rfl⟩
      · rintro d hd K2 hK2
        obtain ⟨j, hj, rfl⟩ := mem_rg hd
        have o := lR_ok hn' (inv n m).w (inv n m).d (0 + (i : Int)) (0 + (j : Int))
        have o2 := lC_ok hn' (inv n m).w (inv n m).r (0 + (i : Int)) (0 + (j : Int))
        have q := hg _ _ o.1 o.2 o2.1 o2.2
        have b := led_there hn m hok (r := 0 + (i : Int)) (c := 0 + (j : Int)) (by omega) (by omega) (by omega) (by omega)
        rw [b.1, b.2] at q
        decreasing_trivial_pre_omega
        exact hK2
  · rintro i d e hd ⟨_, kvs, s4, s5, hl, hg, rfl⟩ K hK
    obtain ⟨hi, rfl⟩ := rg_get hd
    rw [Int.toNat_natCast] at hi
    have hin : i * n ≤ 100 * 100 := Nat.mul_le_mul (by omega) h100
    decreasing_trivial_pre_omega
    refine for_nat (fun j e => j ≤ n ∧ ∃ kvs s5, kvs.length ≤ i * n + j ∧ (∀ r c : Int, 0 ≤ r → 0 ≤ c → c < n → (r < i ∨ (r = i ∧ c < j)) → dget kvs (dPl (lR n m.w m.d r c) (lC n m.w m.r r c)) = some (sgn (f r c))) ∧ e = [.val (cpD n f), .val (dM m), .val (.int n), .own (.dic true kvs), .val (.int (0 + (i : Int))), s5]) ⟨by omega, kvs, _, by omega, fun r c h0 h1 h2 h3 => hg r c h0 (by omega) h1 h2, rfl⟩ ?_ ?_
    · rintro e ⟨_, kvs, s5, hl, hg, rfl⟩
      rw [rg_len, Int.toNat_natCast] at hg hl
      refine hK _ ⟨by omega, kvs, _, _, by rw [Nat.succ_mul]; exact hl, fun r c h0 h1 h2 h3 => hg r c h0 h2 h3 (by omega), rfl⟩
    · rintro j d e hd2 ⟨_, kvs, s5, hl, hg, rfl⟩ K2 hK2
      obtain ⟨hj, rfl⟩ := rg_get hd2
      rw [Int.toNat_natCast] at hj
      have hsl : kvs.length < sizeLine := sl_of (by omega)
      decreasing_trivial_pre_omega
      refine hK2 _ ⟨by omega, _, _, Nat.le_trans (dput_len _ _ _) (by omega), fun r c h0 h1 h2 h3 => ?_, rfl⟩
      rw [dget_put]
      have hr : r < n := by omega
      split
      · rename_i e
        have e := dPl_inj e
        have b1 := led_back hn m h0 hr h1 h2
        have b2 := led_back hn m (r := 0 + (i : Int)) (c := 0 + (j : Int)) (by omega) (by omega) (by omega) (by omega)
        rw [e.1, e.2, b2.1, b2.2] at b1
        rw [b1.1, b1.2]
      · rename_i e
        refine hg r c h0 h1 h2 ?_
        by_cases hh : r = i ∧ c = j
        · exact absurd (by rw [hh.1, hh.2, Int.zero_add, Int.zero_add]) e
        · omega
theorem h_L_all : ∀ ds P Xp, ds.length = M_L_all.length → F_L_all ds P Xp → t_L_all (bodyE P Xp) (startE M_L_all ds N_L_all.length) := by
  intro ds P Xp hlen_ h
  obtain ⟨n, rfl, hn, h⟩ := h
  (rw [e_L_all]; decreasing_trivial_pre_omega)
  refine for_nat (fun i e => i ≤ 8 ∧ ∃ s2 s3 s4, e = [.val (.int n), .own (.lst ((allOf (ways.take i) n).map dM)), s2, s3, s4]) ⟨by omega, _, _, _, rfl⟩ ?_ ?_
  · rintro e ⟨_, s2, s3, s4, rfl⟩
    decreasing_trivial_pre_omega
    exact h
  · rintro i d e hd ⟨_, s2, s3, s4, rfl⟩ K hK
    have hi : i < 8 := (List.getElem?_eq_some_iff.mp hd).1
    obtain ⟨w, hw1, rfl⟩ := ways_get hd
    have hl1 := allOf_len (ways.take i) n
    rw [List.length_take, show ways.length = 8 from rfl, Nat.min_eq_left (by omega)] at hl1
    have hnn : n * n ≤ 64 := Nat.mul_le_mul hn hn
    have hl2 : i * (n * n) ≤ 7 * 64 := Nat.mul_le_mul (by omega) hnn
    decreasing_trivial_pre_omega
    refine for_nat (fun j e => j ≤ n ∧ ∃ s3 s4, e = [.val (.int n), .own (.lst ((allOf (ways.take i) n ++ (List.range j).flatMap fun d => rowM w (d : Nat) n).map dM)), .val (.str w.str), s3, s4]) ⟨by omega, _, _, by simp; rfl⟩ ?_ ?_
    · rintro e ⟨_, s3, s4, rfl⟩
      exact hK _ ⟨by omega, _, _, _, by rw [rg_len, Int.toNat_natCast, allOf_take hw1] <;> rfl⟩
    · rintro j d e hd2 ⟨_, s3, s4, rfl⟩ K2 hK2
      obtain ⟨hj, rfl⟩ := rg_get hd2
      rw [Int.toNat_natCast] at hj
      have hl3 := rows_len w n j
      have hl4 : j * n ≤ 7 * 8 := Nat.mul_le_mul (by omega) hn
      decreasing_trivial_pre_omega
      refine for_nat (fun k e => k ≤ n ∧ ∃ s4, e = [.val (.int n), .own (.lst ((allOf (ways.take i) n ++ ((List.range j).flatMap fun d => rowM w (d : Nat) n) ++ rowM w (j : Nat) k).map dM)), .val (.str w.str), .val (.int (0 + (j : Int))), s4]) ⟨by omega, _, by simp [rowM]; rfl⟩ ?_ ?_
      · rintro e ⟨_, s4, rfl⟩
        have e : allOf (ways.take i) n ++ ((List.range (j + 1)).flatMap fun d => rowM w (d : Nat) n) = allOf (ways.take i) n ++ ((List.range j).flatMap fun d => rowM w (d : Nat) n) ++ rowM w (j : Nat) n := by
          rw [List.range_succ, List.flatMap_append, List.append_assoc, List.flatMap_cons, List.flatMap_nil, List.append_nil]
        exact hK2 _ ⟨by omega, _, _, by rw [rg_len, Int.toNat_natCast, e] <;> rfl⟩
      · rintro k d e hd3 ⟨_, s4, rfl⟩ K3 hK3
        obtain ⟨hk, rfl⟩ := rg_get hd3
        rw [Int.toNat_natCast] at hk
        have hb : ((allOf (ways.take i) n ++ ((List.range j).flatMap fun d => rowM w (d : Nat) n) ++ rowM w (j : Nat) k).map dM).length < sizeLine := by
          have e : sizeLine = 16777216 := by decide
          rw [List.length_map, List.length_append, List.length_append, hl1, hl3, e]
          have : (rowM w (j : Nat) k).length = k := by simp [rowM]
          omega
        decreasing_trivial_pre_omega
        have e : (allOf (ways.take i) n ++ ((List.range j).flatMap fun d => rowM w (d : Nat) n) ++ rowM w (j : Nat) (k + 1)).map dM = (allOf (ways.take i) n ++ ((List.range j).flatMap fun d => rowM w (d : Nat) n) ++ rowM w (j : Nat) k).map dM ++ [.tup [.str w.str, .int (0 + (j : Int)), .int (0 + (k : Int))]] := by
          rw [rowM_succ, ← List.append_assoc, List.map_append (l₂ := [_]), Int.zero_add, Int.zero_add]; rfl
        exact hK3 _ ⟨by omega, _, by rw [e]⟩
theorem h_L_movement : ∀ ds P Xp, ds.length = M_L_movement.length → F_L_movement ds P Xp → t_L_movement (bodyE P Xp) (startE M_L_movement ds N_L_movement.length) := by
  intro ds P Xp hlen_ h
  obtain ⟨n, x, rfl, hn, h8, h⟩ := h
  have hp : 0 < 8 * (n : Int) * n := Int.mul_pos (by omega) (by omega)
  (rw [e_L_movement]; decreasing_trivial_pre_omega)
  intro m hm
  decreasing_trivial_pre_omega
  exact h m hm
theorem h_L_is_movement : ∀ ds P Xp, ds.length = M_L_is_movement.length → F_L_is_movement ds P Xp → t_L_is_movement (bodyE P Xp) (startE M_L_is_movement ds N_L_is_movement.length) := by
  intro ds P Xp hlen_ h
  obtain ⟨n, m, rfl, h8, hok, h⟩ := h
  have hm : decide (m ∈ allW n) = true := decide_eq_true (mem_allW.mpr hok)
  (rw [e_L_is_movement]; decreasing_trivial_pre_omega)
  rw [hm]
  exact h
theorem h_L_letters : ∀ ds P Xp, ds.length = M_L_letters.length → F_L_letters ds P Xp → t_L_letters (bodyE P Xp) (startE M_L_letters ds N_L_letters.length) := by
  intro ds P Xp hlen_ h
  obtain ⟨sd, k, rfl, h0, hk, h26, h⟩ := h
  (rw [e_L_letters]; decreasing_trivial_pre_omega)
  rw [Int.toNat_natCast]
  refine lc_map (ltF fun i => abcL ((sd + 7 * i) % 26)) (by rw [rg_len]; exact sle_of (by omega)) ?_ ?_
  · rw [ltF_map]
    exact ⟨_, rfl, h _ (ltL_ok hk h26 fun i => abcL_ok (by omega) (by omega))⟩
  · rintro d hd K hK
    obtain ⟨i, hi, rfl⟩ := mem_rg hd
    decreasing_trivial_pre_omega
    exact hK
theorem h_L_carpet : ∀ ds P Xp, ds.length = M_L_carpet.length → F_L_carpet ds P Xp → t_L_carpet (bodyE P Xp) (startE M_L_carpet ds N_L_carpet.length) := by
  intro ds P Xp hlen_ h
  obtain ⟨ms, n, ls, sd, rfl, hms, hn, h8, hls, h⟩ := h
  have hlp := hls.pos
  (rw [e_L_carpet]; decreasing_trivial_pre_omega)
  refine for_nat (fun i e => i ≤ n ∧ ∃ f s5 s6 s7 s8, okA f ∧ e = [.bor (.lst (ms.map D.int)), .val (.int n), .bor (.lst (ls.map sgn)), .val (.int sd), .own (.lst ((List.range i).map fun r => .str (rowS n (f (r : Nat))))), s5, s6, s7, s8]) ⟨by omega, fun _ _ => 97, _, _, _, _, okA_97, rfl⟩ ?_ ?_
  · rintro e ⟨_, f, s5, s6, s7, s8, hf, rfl⟩
    rw [rg_len, Int.toNat_natCast]
    decreasing_trivial_pre_omega
    exact h f hf
  · rintro i d e hd ⟨_, f, s5, s6, s7, s8, hf, rfl⟩ K hK
    obtain ⟨hi, rfl⟩ := rg_get hd
    rw [Int.toNat_natCast] at hi
    have hsl : ((List.range i).map fun r => D.str (rowS n (f (r : Nat)))).length < sizeLine := by rw [List.length_map, List.length_range]; exact sl_of (by omega)
    decreasing_trivial_pre_omega
    refine for_nat (fun j e => j ≤ n ∧ ∃ g s7 s8, (∀ c, 97 ≤ g c ∧ g c < 123) ∧ e = [.bor (.lst (ms.map D.int)), .val (.int n), .bor (.lst (ls.map sgn)), .val (.int sd), .own (.lst ((List.range i).map fun r => .str (rowS n (f (r : Nat))))), .val (.int (0 + (i : Int))), .val (.str (rowS j g)), s7, s8]) ⟨by omega, fun _ => 97, _, _, okAg_97, by rw [row_nil] <;> rfl⟩ ?_ ?_
    · rintro e ⟨_, g, s7, s8, hg, rfl⟩
      rw [rg_len, Int.toNat_natCast]
      decreasing_trivial_pre_omega
      refine hK _ ⟨by omega, updC f i g, _, _, _, _, okA_upd hf hg, by rw [rows_upd] <;> rfl⟩
    · rintro j d e hd2 ⟨_, g, s7, s8, hg, rfl⟩ K2 hK2
      obtain ⟨hj, rfl⟩ := rg_get hd2
      rw [Int.toNat_natCast] at hj
      have hin : 0 ≤ (0 + (i : Int)) * n ∧ (0 + (i : Int)) * n ≤ 64 := ⟨Int.mul_nonneg (by omega) (by omega), Int.le_trans (Int.mul_le_mul (show 0 + (i : Int) ≤ 8 by omega) (show (n : Int) ≤ 8 by omega) (by omega) (by omega)) (by omega)⟩
      have hmod : 0 ≤ (0 + (i : Int) + (0 + (j : Int))) % (n : Int) ∧ (0 + (i : Int) + (0 + (j : Int))) % (n : Int) < n := ⟨Int.emod_nonneg _ (by omega), Int.emod_lt_of_pos _ (by omega)⟩
      have hmul : ∀ z : Int, 0 ≤ z → z ≤ 8 → 0 ≤ (n : Int) * z ∧ (n : Int) * z ≤ 64 := fun z h0 h1 => ⟨Int.mul_nonneg (by omega) (by omega), Int.le_trans (Int.mul_le_mul (show (n : Int) ≤ 8 by omega) h1 (by omega) (by omega)) (by omega)⟩
      have hq : sd % 4 = 0 ∨ sd % 4 = 1 ∨ sd % 4 = 2 ∨ sd % 4 = 3 := by omega
      rcases hq with hq | hq | hq | hq
      all_goals
        decreasing_trivial_pre_omega
        try (intro a ha0 ha1; decreasing_trivial_pre_omega; intro b hb0 hb1; have hmul := hmul b hb0 (by omega); decreasing_trivial_pre_omega)
        intro z
        decreasing_trivial_pre_omega
        intro w hw0 hw1
        decreasing_trivial_pre_omega
        intro x hx0 hx1
        decreasing_trivial_pre_omega
        exact hK2 _ ⟨by omega, updG g j x, _, _, okAg_upd hg hx0 hx1, rfl⟩
theorem h_L_circles : ∀ ds P Xp, ds.length = M_L_circles.length → F_L_circles ds P Xp → t_L_circles (bodyE P Xp) (startE M_L_circles ds N_L_circles.length) := by
  intro ds P Xp hlen_ h
  obtain ⟨n, L, rfl, hn, h100, hL, h⟩ := h
  have hn' : (0 : Int) < n := by omega
  have hnn : n * n ≤ 100 * 100 := Nat.mul_le_mul h100 h100
  have hN : ((n : Int) * n).toNat = n * n := by rw [← Int.natCast_mul, Int.toNat_natCast]
  have hni : (n : Int) * n ≤ 10000 := by rw [← Int.natCast_mul]; omega
  have hni0 : (0 : Int) ≤ (n : Int) * n := by rw [← Int.natCast_mul]; omega
  (rw [e_L_circles]; decreasing_trivial_pre_omega)
  rw [hN]
  refine for_nat (fun k e => k ≤ n * n ∧ ∃ F s4 s5 s6 s7 s8 s9, RK n L k F ∧ e = [.val (.int n), .val (.lst (L.map dM)), .own (.dic true (kvA dP (fun _ => .bl true) F)), .own (.lst ((preK n L k).map fun p => dLP (circP n L p))), s4, s5, s6, s7, s8, s9]) ⟨by omega, [], _, _, _, _, _, _, RK.zero, by rw [preK_zero] <;> rfl⟩ ?_ ?_
  · rintro e ⟨_, F, s4, s5, s6, s7, s8, s9, hI, rfl⟩
    rw [rg_len, preK_all hn]
    decreasing_trivial_pre_omega
    exact h
  · rintro k d e hd ⟨_, F, s4, s5, s6, s7, s8, s9, hI, rfl⟩ K hK
    obtain ⟨hk, rfl⟩ := rg_get hd
    have hF : F.length ≤ n * n := RInv.len hI
    have hpl := preK_len (n := n) L k
    have hsl : ((preK n L k).map fun p => dLP (circP n L p)).length < sizeLine := by rw [List.length_map]; exact sl_of (by omega)
    have hdk : k / n < n := Nat.div_lt_of_lt_mul hk
    have hmk : k % n < n := Nat.mod_lt k hn
    have ed : (0 + (k : Int)) / (n : Int) = ((k / n : Nat) : Int) := by rw [Int.zero_add]; rfl
    have em : (0 + (k : Int)) % (n : Int) = ((k % n : Nat) : Int) := by rw [Int.zero_add]; rfl
    have hps := preK_succ (k := k) hn L
    unfold RK at hI
    unfold preK at hsl ⊢
    have hK' : ∀ F s4 s5 s6 s7 s8 s9, RInv n L (k / n) (k % n + 1) F → K [.val (.int n), .val (.lst (L.map dM)), .own (.dic true (kvA dP (fun _ => .bl true) F)), .own (.lst ((preR n L (k / n) (k % n + 1)).map fun p => dLP (circP n L p))), s4, s5, s6, s7, s8, s9] := fun F s4 s5 s6 s7 s8 s9 hz => hK _ ⟨by omega, F, s4, s5, s6, s7, s8, s9, RK.succ hn hz, by rw [hps]⟩
    generalize hi : k / n = i at *
    generalize hj : k % n = j at *
    have hp : (((i : Int), (j : Int)) : Pl) ∈ allP n := mem_allP.mpr ⟨by show (0 : Int) ≤ i; omega, by show (i : Int) < n; omega, by show (0 : Int) ≤ j; omega, by show (j : Int) < n; omega⟩
    decreasing_trivial_pre_omega
    rw [ed, em]
    decreasing_trivial_pre_omega
    refine ite_ni (fun hnot => ?_) fun hin => ?_
    · have hr := hI.root hp rfl rfl hnot
      have hC := CInv.two hn hL hI hp hnot
      have hput := kvA_put dP_inj (v := fun _ => D.bl true) hnot
      have hput : dput (kvA dP (fun _ => .bl true) F) (dPl i j) (.bl true) = kvA dP (fun _ => .bl true) (F ++ [((i : Int), (j : Int))]) := hput
      have hsl1 : (kvA dP (fun _ => .bl true) F).length < sizeLine := by rw [kvA_len]; exact sl_of (by omega)
      decreasing_trivial_pre_omega
      rw [hput]
      refine while_inv (fun r e => ∃ (W : List Pl) (a9 : Nat) (s8 s9 : Slot), a9 ≤ W.length ∧ CInv (ledP n) L (F ++ [((i : Int), (j : Int))]) (allP n) (F ++ W) (W.drop a9) r ∧ e = [.val (.int n), .val (.lst (L.map dM)), .own (.dic true (kvA dP (fun _ => .bl true) (F ++ W))), .own (.lst ((preR n L i j).map fun p => dLP (circP n L p))), .val (.int (0 + (k : Int))), .val (dPl i j), .own (.lst (W.map dP)), .val (.int a9), s8, s9]) _ ⟨[((i : Int), (j : Int))], 0, _, _, by simp, hC, rfl⟩ ?_
      rintro r e ⟨W, a9, s8, s9, hat, hC, rfl⟩ K3 hK3
      decreasing_trivial_pre_omega
      refine ite_d (fun hlt => ?_) fun hge => ?_
      · have hlt : (a9 : Int) < ((W.map dP).length : Nat) := hlt
        rw [List.length_map] at hlt
        obtain ⟨one, hone⟩ : ∃ one, W[a9]? = some one := ⟨_, List.getElem?_eq_getElem (by omega)⟩
        have hatI : L2.atI (W.map dP) (a9 : Int) = some (dP one) := atI_of (j := a9) rfl (by rw [List.getElem?_map, hone] <;> rfl)
        have hG := hC.take (W' := W.drop (a9 + 1)) (one := one) (drop_take hone) (by rw [List.length_drop, List.length_drop]; omega)
        decreasing_trivial_pre_omega
        refine for_nat (fun m e => ∃ (W : List Pl) (s8 s9 : Slot), a9 + 1 ≤ W.length ∧ L2.atI (W.map dP) (a9 : Int) = some (dP one) ∧ GInv (ledP n) L (F ++ [((i : Int), (j : Int))]) (allP n) one r (L.take m) (F ++ W) (W.drop (a9 + 1)) ∧ e = [.val (.int n), .val (.lst (L.map dM)), .own (.dic true (kvA dP (fun _ => .bl true) (F ++ W))), .own (.lst ((preR n L i j).map fun p => dLP (circP n L p))), .val (.int (0 + (k : Int))), .val (dPl i j), .own (.lst (W.map dP)), .val (.int a9), s8, s9]) ⟨W, _, _, by omega, hatI, hG, rfl⟩ ?_ ?_
        · rintro e ⟨W, s8, s9, hat, hatI, hG, rfl⟩
          rw [List.length_map, List.take_length] at hG
          obtain ⟨hC', hlt'⟩ := hG.back
          decreasing_trivial_pre_omega
          exact hK3 _ _ hlt' ⟨W, a9 + 1, _, _, hat, hC', rfl⟩
        · rintro m d e hd3 ⟨W, s8, s9, hat, hatI, hG, rfl⟩ K4 hK4
          rw [List.getElem?_map] at hd3
          obtain ⟨x, hx, rfl⟩ := Option.map_eq_some_iff.mp hd3
          have hxL : x ∈ L := List.mem_of_getElem? hx
          have hl := hG.len
          rw [allP_len] at hl
          have hl2 := hl
          rw [List.length_append] at hl2
          have hU : ∀ m, Rch (ledP n) L (F ++ [((i : Int), (j : Int))]) m → m ∈ allP n := fun m hm => by
            rcases Rch.split (hI.closed hn hL) hm with e | e
            · exact ((hI.mem m).mp e).1
            · exact rchP_in hn hp e
          have hN := hG.next (x := x) hU hxL
          rw [← take_snoc hx] at hN
          have hsl1 : (kvA dP (fun _ => .bl true) (F ++ W)).length < sizeLine := by rw [kvA_len]; exact sl_of (by omega)
          have hsl2 : (W.map dP).length < sizeLine := by rw [List.length_map]; exact sl_of (by omega)
          decreasing_trivial_pre_omega
          refine ite_ni (fun hnot2 => ?_) fun hin2 => ?_
          · have hnot2 : ledP n one x ∉ F ++ W := hnot2
            rw [gro_out hnot2] at hN
            have hput2 : dput (kvA dP (fun _ => .bl true) (F ++ W)) (dPl (lR n x.w x.d one.1 one.2) (lC n x.w x.r one.1 one.2)) (.bl true) = kvA dP (fun _ => .bl true) (F ++ (W ++ [ledP n one x])) := by
              rw [← List.append_assoc]
              exact kvA_put dP_inj (v := fun _ => .bl true) hnot2
            have edr : W.drop (a9 + 1) ++ [ledP n one x] = (W ++ [ledP n one x]).drop (a9 + 1) := by rw [List.drop_append_of_le_length hat]
            have hN : GInv (ledP n) L (F ++ [((i : Int), (j : Int))]) (allP n) one r (L.take (m + 1)) (F ++ (W ++ [ledP n one x])) ((W ++ [ledP n one x]).drop (a9 + 1)) := by rw [← edr, ← List.append_assoc]; exact hN
            have hat2 : L2.atI ((W ++ [ledP n one x]).map dP) (a9 : Int) = some (dP one) := by
              have hz := hatI
              obtain ⟨y, hy⟩ : ∃ y, (W.map dP)[a9]? = some y := ⟨_, List.getElem?_eq_getElem (by rw [List.length_map]; omega)⟩
              have e1 : L2.atI (W.map dP) (a9 : Int) = some y := atI_of (j := a9) rfl hy
              rw [hz] at e1
              rw [← Option.some.inj e1] at hy
              refine atI_of (j := a9) rfl ?_
              rw [List.map_append, List.getElem?_append_left (by rw [List.length_map]; omega), hy]
            decreasing_trivial_pre_omega
            rw [hput2]
            exact hK4 _ ⟨W ++ [ledP n one x], _, _, by rw [List.length_append]; omega, hat2, hN, by rw [List.map_append] <;> rfl⟩
          · have hin2 : ledP n one x ∈ F ++ W := hin2
            rw [gro_in hin2] at hN
            exact hK4 _ ⟨W, _, _, hat, hatI, hN, rfl⟩
      · have hge : ¬ ((a9 : Int) < ((W.map dP).length : Nat)) := fun z => hge z
        rw [List.length_map] at hge
        rw [List.drop_of_length_le (by omega)] at hC
        have hs := spots_circ hn hL hI hp hnot hC
        have hnx := hI.next hn hL hp rfl rfl hr hC
        have hin3 := preR_in hr
        decreasing_trivial_pre_omega
        rw [hs]
        have hk2 := fun s4 s5 s6 s7 s8 s9 => hK' (F ++ W) s4 s5 s6 s7 s8 s9 hnx
        simp only [hin3, List.map_append] at hk2
        exact hk2 _ _ _ _ _ _
    · have hz := hI.skip hn hL rfl rfl hin
      have hout := preR_out (hI.noroot hin)
      have hk2 := fun s4 s5 s6 s7 s8 s9 => hK' F s4 s5 s6 s7 s8 s9 hz
      simp only [hout] at hk2
      exact hk2 _ _ _ _ _ _
theorem h_L_had : ∀ ds P Xp, ds.length = M_L_had.length → F_L_had ds P Xp → t_L_had (bodyE P Xp) (startE M_L_had ds N_L_had.length) := by
  intro ds P Xp hlen_ h
  obtain ⟨n, f, C, rfl, h100, hC, hcl, h⟩ := h
  (rw [e_L_had]; decreasing_trivial_pre_omega)
  refine for_nat (fun i e => i ≤ C.length ∧ ∃ F s3 s4, HadI (colsL f (C.take i)) F ∧ F.length ≤ i ∧ e = [.val (cpD n f), .val (.lst (C.map dP)), .own (.dic false (kvA sgn (cntD (colsL f (C.take i))) F)), s3, s4]) ⟨by omega, [], _, _, HadI.zero, by simp, rfl⟩ ?_ ?_
  · rintro e ⟨_, F, s3, s4, hI, hFl, rfl⟩
    rw [List.length_map, List.take_length] at hI ⊢
    rw [List.length_map] at hFl
    decreasing_trivial_pre_omega
    exact h F hI hFl
  · rintro i d e hd ⟨hi, F, s3, s4, hI, hFl, rfl⟩ K hK
    rw [List.getElem?_map] at hd
    obtain ⟨p, hp, rfl⟩ := Option.map_eq_some_iff.mp hd
    have hil : i < C.length := (List.getElem?_eq_some_iff.mp hp).1
    obtain ⟨a0, a1, a2, a3⟩ := mem_allP.mp (hC p (List.mem_of_getElem? hp))
    obtain ⟨F', hI', hl', hput⟩ := hI.put (f p.1 p.2)
    have ec : colsL f (C.take i) ++ [f p.1 p.2] = colsL f (C.take (i + 1)) := by
      rw [take_snoc hp]; unfold colsL; rw [List.map_append]; rfl
    rw [ec] at hI' hput
    have hsl : (kvA sgn (cntD (colsL f (C.take i))) F).length < sizeLine := by rw [kvA_len]; exact sl_of (by omega)
    decreasing_trivial_pre_omega
    rw [hput]
    exact hK _ ⟨by omega, F', _, _, hI', by omega, rfl⟩
theorem h_L_image : ∀ ds P Xp, ds.length = M_L_image.length → F_L_image ds P Xp → t_L_image (bodyE P Xp) (startE M_L_image ds N_L_image.length) := by
  intro ds P Xp hlen_ h
  obtain ⟨Ws, rfl, hl, h⟩ := h
  (rw [e_L_image]; decreasing_trivial_pre_omega)
  refine for_nat (fun i e => i ≤ 2 ∧ ∃ s2 s3, e = [.val (.lst (Ws.map wD)), .own (.lst (((imgP Ws).take i).map dP)), s2, s3]) ⟨by omega, _, _, rfl⟩ ?_ ?_
  · rintro e ⟨_, s2, s3, rfl⟩
    have e2 : (imgP Ws).take 2 = imgP Ws := rfl
    have e3 : [D.tup [.int 1, .int 0], .tup [.int 0, .int 1]].length = 2 := rfl
    rw [e3, e2]
    decreasing_trivial_pre_omega
    exact h
  · rintro i d e hd ⟨hi, s2, s3, rfl⟩ K hK
    have hd : ([((1 : Int), (0 : Int)), (0, 1)].map dP)[i]? = some d := hd
    rw [List.getElem?_map] at hd
    obtain ⟨p, hp, rfl⟩ := Option.map_eq_some_iff.mp hd
    have hi2 := (List.getElem?_eq_some_iff.mp hp).1
    have hip : (imgP Ws)[i]? = some (Ws.foldl (fun q w => ledP 7 q ⟨w, 0, 0⟩) p) := by
      unfold imgP; rw [List.getElem?_map, hp]; rfl
    have hsl : (((imgP Ws).take i).map dP).length < sizeLine := by
      rw [List.length_map, List.length_take]
      exact sl_of (by omega)
    decreasing_trivial_pre_omega
    refine for_nat (fun j e => j ≤ Ws.length ∧ ∃ s3, e = [.val (.lst (Ws.map wD)), .own (.lst (((imgP Ws).take i).map dP)), .val (dP ((Ws.take j).foldl (fun q w => ledP 7 q ⟨w, 0, 0⟩) p)), s3]) ⟨by omega, _, rfl⟩ ?_ ?_
    · rintro e ⟨_, s3, rfl⟩
      rw [List.length_map, List.take_length]
      decreasing_trivial_pre_omega
      exact hK _ ⟨by simp at hi2; omega, _, _, by rw [take_snoc hip, List.map_append] <;> rfl⟩
    · rintro j d e hd2 ⟨_, s3, rfl⟩ K2 hK2
      rw [List.getElem?_map] at hd2
      obtain ⟨w, hw, rfl⟩ := Option.map_eq_some_iff.mp hd2
      have hj := (List.getElem?_eq_some_iff.mp hw).1
      generalize hq : (Ws.take j).foldl (fun q w => ledP 7 q ⟨w, 0, 0⟩) p = q at *
      decreasing_trivial_pre_omega
      exact hK2 _ ⟨by omega, _, by rw [take_snoc hw, List.foldl_append, hq] <;> rfl⟩
theorem h_L_table : ∀ ds P Xp, ds.length = M_L_table.length → F_L_table ds P Xp → t_L_table (bodyE P Xp) (startE M_L_table ds N_L_table.length) := by
  intro ds P Xp hlen_ h
  obtain ⟨rfl, h⟩ := h
  (rw [e_L_table]; decreasing_trivial_pre_omega)
  refine for_nat (fun i e => i ≤ 8 ∧ ∃ kvs s2 s3 s4, Tab (fun a _ => a ∈ ways.take i) kvs ∧ kvs.length ≤ i * 64 ∧ e = [.bor (.lst (ways.map wD)), .own (.dic true kvs), s2, s3, s4]) ⟨by omega, [], _, _, _, fun a b q => (by simp at q), by simp, rfl⟩ ?_ ?_
  · rintro e ⟨_, kvs, s2, s3, s4, hT, hl, rfl⟩
    decreasing_trivial_pre_omega
    exact h kvs (hT.imp fun a b _ => ways_all a)
  · rintro i d e hd ⟨hi, kvs, s2, s3, s4, hT, hl, rfl⟩ K hK
    obtain ⟨a, ha, rfl⟩ := ways_at hd
    have hi8 : i < 8 := (List.getElem?_eq_some_iff.mp ha).1
    decreasing_trivial_pre_omega
    refine for_nat (fun j e => j ≤ 8 ∧ ∃ kvs s3 s4, Tab (fun x y => x ∈ ways.take i ∨ (x = a ∧ y ∈ ways.take j)) kvs ∧ kvs.length ≤ i * 64 + j * 8 ∧ e = [.bor (.lst (ways.map wD)), .own (.dic true kvs), .val (wD a), s3, s4]) ⟨by omega, kvs, _, _, hT.imp fun x y q => q.elim id fun z => (by simp at z), by omega, rfl⟩ ?_ ?_
    · rintro e ⟨_, kvs, s3, s4, hT, hl, rfl⟩
      have hl8 : (ways.map wD).length = 8 := rfl
      rw [hl8] at hT hl
      refine hK _ ⟨by omega, kvs, _, _, _, hT.imp fun x y q => ?_, by omega, rfl⟩
      rw [take_snoc ha] at q
      rcases List.mem_append.mp q with q | q
      · exact .inl q
      · exact .inr ⟨List.mem_singleton.mp q, ways_all y⟩
    · rintro j d e hd2 ⟨hj, kvs, s3, s4, hT, hl, rfl⟩ K2 hK2
      obtain ⟨b, hb, rfl⟩ := ways_at hd2
      have hj8 : j < 8 := (List.getElem?_eq_some_iff.mp hb).1
      decreasing_trivial_pre_omega
      refine for_nat (fun k e => k ≤ 8 ∧ ∃ kvs s4, Tab (fun x y => (x ∈ ways.take i ∨ (x = a ∧ y ∈ ways.take j)) ∨ (mulW a b ∈ ways.take k ∧ x = a ∧ y = b)) kvs ∧ kvs.length ≤ i * 64 + j * 8 + k ∧ e = [.bor (.lst (ways.map wD)), .own (.dic true kvs), .val (wD a), .val (wD b), s4]) ⟨by omega, kvs, _, hT.imp fun x y q => q.elim id fun z => (by simp at z), by omega, rfl⟩ ?_ ?_
      · rintro e ⟨_, kvs, s4, hT, hl, rfl⟩
        have hl8 : (ways.map wD).length = 8 := rfl
        rw [hl8] at hT hl
        refine hK2 _ ⟨by omega, kvs, _, _, hT.imp fun x y q => ?_, by omega, rfl⟩
        rw [take_snoc hb] at q
        rcases q with q | ⟨rfl, q⟩
        · exact .inl (.inl q)
        · rcases List.mem_append.mp q with q | q
          · exact .inl (.inr ⟨rfl, q⟩)
          · exact .inr ⟨ways_all _, rfl, List.mem_singleton.mp q⟩
      · rintro k d e hd3 ⟨hk, kvs, s4, hT, hl, rfl⟩ K3 hK3
        obtain ⟨w, hw, rfl⟩ := ways_at hd3
        have hk8 : k < 8 := (List.getElem?_eq_some_iff.mp hw).1
        have hsl : kvs.length < sizeLine := sl_of (by omega)
        have l2 : [a, b].length ≤ 10 := by show 2 ≤ 10; decide
        have l1 : [w].length ≤ 10 := by show 1 ≤ 10; decide
        have hpl := dput_len kvs (kAB a b) (wD (mulW a b))
        decreasing_trivial_pre_omega
        refine ite_e (fun e => ?_) fun e => ?_
        · subst e
          decreasing_trivial_pre_omega
          refine hK3 _ ⟨by omega, dput kvs (kAB a b) (wD (mulW a b)), _, (hT.put a b).imp fun x y q => ?_, by omega, rfl⟩
          rcases q with q | ⟨_, q⟩
          · exact .inl (.inl q)
          · exact .inr q
        · refine hK3 _ ⟨by omega, kvs, _, hT.imp fun x y q => ?_, by omega, rfl⟩
          rcases q with q | ⟨q1, q⟩
          · exact .inl q
          · rw [take_snoc hw] at q1
            rcases List.mem_append.mp q1 with q1 | q1
            · exact .inr ⟨q1, q⟩
            · exact absurd (List.mem_singleton.mp q1) e
theorem h_L_size : ∀ ds P Xp, ds.length = M_L_size.length → F_L_size ds P Xp → t_L_size (bodyE P Xp) (startE M_L_size ds N_L_size.length) := by
  intro ds P Xp hlen_ h
  obtain ⟨n, L, kvs, rfl, hn, h100, hL, hT, h⟩ := h
  have hn' : (0 : Int) < n := by omega
  have hnn : n * n ≤ 100 * 100 := Nat.mul_le_mul h100 h100
  have hT : ∀ a b : Way, dget kvs (.tup [.str a.str, .str b.str]) = some (.str (mulW a b).str) := fun a b => hT a b trivial
  (rw [e_L_size]; decreasing_trivial_pre_omega)
  refine while_inv (fun r e => ∃ F W s5 s6 s7 s8 s9, F.Nodup ∧ (∀ m ∈ F, Reach n L m) ∧ stayM ∈ F ∧ (∀ m ∈ W, m ∈ F) ∧ (∀ m ∈ F, m ∉ W → ∀ x ∈ L, thn n m x ∈ F) ∧ W.length ≤ F.length ∧ r + 2 * F.length = 2 * (8 * (n * n)) + W.length ∧
    e = [.val (.int n), .bor (.lst (L.map dM)), .bor (.dic true kvs), .own (.dic true (kvM (.bl true) F)), .own (.lst (W.map dM)), s5, s6, s7, s8, s9]) (2 * (8 * (n * n)) - 1) ⟨[stayM], [stayM], _, _, _, _, _, by simp, by intro m hm; rw [List.mem_singleton.mp hm]; exact .stay, by simp, by simp, by simp, Nat.le_refl _, by have := Nat.mul_pos hn hn; simp; omega, rfl⟩ ?_
  rintro r e ⟨F, W, s5, s6, s7, s8, s9, hd, hr, hs, hw, hc, hwl, hm, rfl⟩ K hK
  decreasing_trivial_pre_omega
  refine ite_n (fun hne => ?_) fun he => ?_
  · have hW : W ≠ [] := fun e => hne (ne_nil_M.mpr e)
    obtain ⟨W', one, rfl⟩ : ∃ W' one, W = W' ++ [one] := ⟨_, _, (List.dropLast_concat_getLast hW).symm⟩
    have hp : ((W' ++ [one]).map dM)[((W' ++ [one]).map dM).length - 1]? = some (dM one) := by simp
    have hdr : ((W' ++ [one]).map dM).dropLast = W'.map dM := by simp
    have h1 : one ∈ F := hw one (by simp)
    decreasing_trivial_pre_omega
    rw [hdr]
    refine for_inv (fun rest e => ∃ F W s6 s7 s8 s9, F.Nodup ∧ (∀ m ∈ F, Reach n L m) ∧ stayM ∈ F ∧ one ∈ F ∧ (∀ m ∈ W, m ∈ F) ∧ (∀ m ∈ F, m ∉ W → m = one ∨ ∀ x ∈ L, thn n m x ∈ F) ∧ (∃ pre, L.map dM = pre.map dM ++ rest ∧ ∀ x ∈ pre, thn n one x ∈ F) ∧ W.length ≤ F.length ∧ r + 2 * F.length ≥ 2 * (8 * (n * n)) + W.length + 1 ∧
      e = [.val (.int n), .bor (.lst (L.map dM)), .bor (.dic true kvs), .own (.dic true (kvM (.bl true) F)), .own (.lst (W.map dM)), .val (dM one), s6, s7, s8, s9]) ⟨F, W', _, _, _, _, hd, hr, hs, h1, fun m hm => hw m (by simp [hm]), fun m hm hmw => ?_, ⟨[], by simp, by simp⟩, by simp at hwl; omega, by simp at hm; omega, rfl⟩ ?_ ?_
    · by_cases e : m = one
      · exact .inl e
      · exact .inr (hc m hm (by simp [hmw, e]))
    · rintro e ⟨F, W, s6, s7, s8, s9, hd, hr, hs, h1, hw, hc, ⟨pre, hpre, hx⟩, hwl, hm, rfl⟩
      rw [List.append_nil] at hpre
      have hpre := mapM_inj.mp hpre
      subst hpre
      have hb := bound_M hd fun m hm => (hr m hm).ok hn
      refine hK (2 * (8 * (n * n)) + W.length - 2 * F.length) _ (by omega) ⟨F, W, _, _, _, _, _, hd, hr, hs, hw, fun m hm hmw => ?_, hwl, by omega, rfl⟩
      rcases hc m hm hmw with e | e
      · subst e; exact hx
      · exact e
    · rintro d rest e ⟨F, W, s6, s7, s8, s9, hd, hr, hs, h1, hw, hc, ⟨pre, hpre, hx⟩, hwl, hm, rfl⟩ K2 hK2
      obtain ⟨x, hxL, rfl, hpre2⟩ : ∃ x ∈ L, d = dM x ∧ L.map dM = (pre ++ [x]).map dM ++ rest := by
        have hmem : d ∈ L.map dM := by rw [hpre]; simp
        obtain ⟨x, hx, rfl⟩ := List.mem_map.mp hmem
        exact ⟨x, hx, rfl, by rw [hpre]; simp⟩
      have hb := bound_M hd fun m hm => (hr m hm).ok hn
      have hsl1 : (kvM (.bl true) F).length < sizeLine := by rw [kvM_len]; exact sl_of (by omega)
      have hsl2 : (W.map dM).length < sizeLine := by rw [List.length_map]; exact sl_of (by omega)
      have hTx := hT one.w x.w
      decreasing_trivial_pre_omega
      refine ite_ni (fun hnot => ?_) fun hin => ?_
      · have hnot : thn n one x ∉ F := hnot
        have hput : dput (kvM (.bl true) F) (.tup [.str (mulW one.w x.w).str, .int (lR n x.w x.d one.d one.r), .int (lC n x.w x.r one.d one.r)]) (.bl true) = kvM (.bl true) (F ++ [thn n one x]) := kvM_put hnot
        decreasing_trivial_pre_omega
        refine hK2 _ ⟨F ++ [thn n one x], W ++ [thn n one x], _, _, _, _, ?_, ?_, ?_, ?_, ?_, ?_, ⟨pre ++ [x], hpre2, ?_⟩, ?_, ?_, by rw [hput, List.map_append] <;> rfl⟩
        · rw [List.nodup_append]
          exact ⟨hd, by simp, fun a ha b hb e => hnot (by rw [List.mem_singleton] at hb; rw [← hb, ← e]; exact ha)⟩
        · intro m hm
          rcases List.mem_append.mp hm with hm | hm
          · exact hr m hm
          · rw [List.mem_singleton.mp hm]; exact .step (hr one h1) hxL
        · simp [hs]
        · simp [h1]
        · intro m hm
          rcases List.mem_append.mp hm with hm | hm
          · simp [hw m hm]
          · simp [List.mem_singleton.mp hm]
        · intro m hm hmw
          rcases List.mem_append.mp hm with hm | hm
          · rcases hc m hm (fun z => hmw (by simp [z])) with e | e
            · exact .inl e
            · exact .inr fun y hy => by simp [e y hy]
          · exact absurd (by simp [List.mem_singleton.mp hm]) hmw
        · intro y hy
          rcases List.mem_append.mp hy with hy | hy
          · simp [hx y hy]
          · rw [List.mem_singleton.mp hy]; simp
        · simp; omega
        · simp; omega
      · have hin : thn n one x ∈ F := hin
        decreasing_trivial_pre_omega
        refine hK2 _ ⟨F, W, _, _, _, _, hd, hr, hs, h1, hw, hc, ⟨pre ++ [x], hpre2, ?_⟩, hwl, hm, rfl⟩
        intro y hy
        rcases List.mem_append.mp hy with hy | hy
        · exact hx y hy
        · rw [List.mem_singleton.mp hy]; exact hin
  · have hW : W = [] := ne_nil_M.mp he
    subst hW
    have hkl := kvM_len (.bl true) F
    decreasing_trivial_pre_omega
    rw [hkl, made_size hn hd hr hs fun m hm => hc m hm (by simp)]
    exact h
theorem h_L_price : ∀ ds P Xp, ds.length = M_L_price.length → F_L_price ds P Xp → t_L_price (bodyE P Xp) (startE M_L_price ds N_L_price.length) := by
  intro ds P Xp hlen_ h
  obtain ⟨n, f, L, rfl, hn, h100, hL, hf, h⟩ := h
  have hnn : n * n ≤ 100 * 100 := Nat.mul_le_mul h100 h100
  have hrl := roots_len n L
  (rw [e_L_price]; decreasing_trivial_pre_omega)
  refine for_nat (fun i e => ∃ s3, e = [.val (cpD n f), .val (.lst (L.map dM)), .val (.int (prc n L f i)), s3]) ⟨_, rfl⟩ ?_ ?_
  · rintro e ⟨s3, rfl⟩
    rw [List.length_map, prc_all hn hL]
    decreasing_trivial_pre_omega
    exact h
  · rintro i d e hd ⟨s3, rfl⟩ K hK
    rw [List.getElem?_map] at hd
    obtain ⟨p, hp, rfl⟩ := Option.map_eq_some_iff.mp hd
    have hm := mem_rootsL.mp (List.mem_of_getElem? hp)
    have hcl : (circP n L p).length ≤ 100000 := by
      have : (circP n L p).length ≤ n * n := by rw [← allP_len n]; exact List.length_filter_le _ _
      omega
    have hcn : circP n L p ≠ [] := List.ne_nil_of_mem (circP_self hm.1)
    have hok := okN_cols hf (circP n L p)
    have hcne : colsL f (circP n L p) ≠ [] := fun e => hcn (by unfold colsL at e; rw [List.map_eq_nil_iff] at e; exact e)
    decreasing_trivial_pre_omega
    refine ⟨fun p hp => (mem_circP.mp hp).1, hcl, fun F hI hFl => ?_⟩
    have hvals := had_vals (cs := colsL f (circP n L p)) (F := F)
    have hvne := had_vals_ne hI hcne
    decreasing_trivial_pre_omega
    refine ⟨List.length_pos_iff.mpr hvne, fun m hm ht => ?_⟩
    have hMd := modeX_mode hok hcne
    have em : m = modeM (colsL f (circP n L p)) (modC n L f p) := by
      have e1 : modC n L f p = modeX (colsL f (circP n L p)) := rfl
      rw [e1]
      obtain ⟨x, hx, hxm⟩ := List.mem_map.mp hm
      have t1 := hMd.top x ((hI.mem x).mp hx)
      have t2 := ht _ (List.mem_map.mpr ⟨_, (hI.mem _).mpr hMd.inn, rfl⟩)
      have t3 := hMd.cnt
      omega
    have hps := prc_snoc (f := f) hp
    have hcl2 : (List.map dP (circP n L p)).length = (circP n L p).length := List.length_map _
    decreasing_trivial_pre_omega
    exact hK _ ⟨_, by rw [hps, em, hcl2]⟩
theorem h_L_told_well : ∀ ds P Xp, ds.length = M_L_told_well.length → F_L_told_well ds P Xp → t_L_told_well (bodyE P Xp) (startE M_L_told_well ds N_L_told_well.length) := by
  intro ds P Xp hlen_ h
  obtain ⟨n, few, f, most, kvs, rfl, hn, h3, hf, hT, hL, hl4, hlow, h⟩ := h
  have h100 : n ≤ 100 := by omega
  have h8 : n ≤ 8 := by omega
  have hn' : (0 : Int) < n := by omega
  have hnn : n * n ≤ 3 * 3 := Nat.mul_le_mul h3 h3
  have hgo := menF_ok (n := n) (L := few) hf
  have hN : ((n : Int) * n).toNat = n * n := by rw [← Int.natCast_mul, Int.toNat_natCast]
  have hmv := fun m hm => men_mov hn hL f (m := m) hm
  have hlow : ((diffL n (menF n few f) f).length : Int) ≤ most := hlow
  have hpok := ok_papD (n := n) (m := 55) (L := few) hf
  have hdl := diffL_len n (menF n few f) f
  have hll : (few.map dM).length = few.length := List.length_map _
  obtain ⟨V, hV, hV2⟩ : ∃ V, V = menD n few f ∧ V = .tup [cpD n (menF n few f), .lst ((diffL n (menF n few f) f).map dP), papD n few f] := ⟨_, rfl, rfl⟩
  rw [← hV]
  generalize papD n few f = Pp at *
  generalize menF n few f = g at *
  have hll2 : (List.map dP (diffL n g f)).length = (diffL n g f).length := List.length_map _
  (rw [e_L_told_well]; decreasing_trivial_pre_omega)
  refine lc_filter (fun _ => false) id (by rw [List.length_map]; exact sle_of (by omega)) ?_ ?_
  · rw [List.filter_eq_nil_iff.mpr (fun _ _ => by decide), List.map_nil]
    subst hV2
    have hb1 : -(2 ^ 62) ≤ (n : Int) * n := by have := Int.mul_nonneg (show (0 : Int) ≤ n by omega) (show (0 : Int) ≤ n by omega); omega
    have hb2 : (n : Int) * n < 2 ^ 62 := by rw [← Int.natCast_mul]; omega
    decreasing_trivial_pre_omega
    rw [hN]
    clear hb1 hb2
    refine lc_filter (dmQ n g f) (dmF n) (by rw [rg_len]; exact sle_of (by omega)) ?_ ?_
    · rw [diff_dm n hn]
      have hf' : True ∧ okC f := ⟨trivial, hf⟩
      have hfm : ∀ m ∈ few, D.okD 59 (dM m) = true := fun m _ => ok_M
      clear hf
      decreasing_trivial_pre_omega
      refine ⟨hf'.2, ?_⟩
      rw [← hV]
      decreasing_trivial_pre_omega
      refine lc_filter (fun _ => false) id (by rw [List.length_map]; exact sle_of (by omega)) ?_ ?_
      · rw [List.filter_eq_nil_iff.mpr (fun _ _ => by decide), List.map_nil]
        decreasing_trivial_pre_omega
        exact h
      · rintro d hd K N k1 k2
        obtain ⟨m, hm, rfl⟩ := List.mem_map.mp hd
        have hmo := hL m hm
        have hm2 := hmv m hm
        have hmok := okC_mov (n := n) (m := m) hgo
        decreasing_trivial_pre_omega
        exact k2 rfl
    · intro d hd K N k1 k2
      obtain ⟨k, hk, rfl⟩ := mem_rg hd
      have hk0 : (0 : Int) ≤ 0 + (k : Int) := by omega
      have hkn : (0 + (k : Int)) < n * n := by rw [← Int.natCast_mul]; omega
      have d0 : 0 ≤ (0 + (k : Int)) / n := Int.ediv_nonneg hk0 (by omega)
      have d1 : (0 + (k : Int)) / n < n := Int.ediv_lt_of_lt_mul (by omega) hkn
      have m0 := Int.emod_nonneg (0 + (k : Int)) (show (n : Int) ≠ 0 by omega)
      have m1 := Int.emod_lt_of_pos (0 + (k : Int)) (show 0 < (n : Int) by omega)
      have k1 : decide (g ((0 + (k : Int)) / n) ((0 + (k : Int)) % n) ≠ f ((0 + (k : Int)) / n) ((0 + (k : Int)) % n)) = true → _ := k1
      have k2 : decide (g ((0 + (k : Int)) / n) ((0 + (k : Int)) % n) ≠ f ((0 + (k : Int)) / n) ((0 + (k : Int)) % n)) = false → _ := k2
      decreasing_trivial_pre_omega
      refine ite_n (fun hne => ?_) fun he => ?_
      · decreasing_trivial_pre_omega
        have k3 := k1 (decide_eq_true fun e => hne (by rw [e]))
        exact k3
      · have k3 := k2 (decide_eq_false fun z => z (sgn_inj' he))
        exact k3
  · rintro d hd K N k1 k2
    obtain ⟨m, hm, rfl⟩ := List.mem_map.mp hd
    have hmo := hL m hm
    decreasing_trivial_pre_omega
    exact k2 rfl
theorem h_L_again : ∀ d ds P, ds.length = M_L_again.length → F_L_again d ds P → t_L_again (bodyP P) (startP M_L_again ds N_L_again.length) d 0 := by
  intro d ds P hlen_ h
  obtain ⟨n, few, f, most, kvs, rfl, rfl, hn, h3, hf, hT, hm0, hl4, hsame, h⟩ := h
  have h100 : n ≤ 100 := by omega
  have hdl := diffL_len n (menF n few f) f
  have hnn : n * n ≤ 3 * 3 := Nat.mul_le_mul h3 h3
  have b1 : ((diffL n (menF n few f) f).map dP).length ≤ 1000000 := by rw [List.length_map]; omega
  have b0 : (few.map dM).length ≤ 1000000 := by rw [List.length_map]; omega
  have hp0 : ∀ env, pIx 0 pN env (.tup [.lst (few.map dM), .int (szM n few : Nat), menD n few f]) = some (.lst (few.map dM)) := fun _ => rfl
  have hp1 : ∀ env, pIx 1 (pIx 2 pN) env (.tup [.lst (few.map dM), .int (szM n few : Nat), menD n few f]) = some (.lst ((diffL n (menF n few f) f).map dP)) := fun _ => rfl
  have hp2 : ∀ env, pIx 2 (pIx 2 pN) env (.tup [.lst (few.map dM), .int (szM n few : Nat), menD n few f]) = some (.lst ((SM n few f).map (rowD n few f))) := fun _ => rfl
  (rw [e_L_again]; decreasing_trivial_pre_omega)
  intro _ G few' hG hB
  obtain ⟨s1, s2⟩ := hsame G few' hG hB
  have hfo := hB.ok
  have hfl := hB.len
  have hfw := hB.low
  have l1 : (List.map dP (diffL n (menF n few' f) f)).length = (List.map dP (diffL n (menF n few f) f)).length := by rw [List.length_map, List.length_map]; exact s2
  decreasing_trivial_pre_omega
  rw [l1, decide_eq_true rfl]
  exact h
theorem h_law : ∀ ds P Xp, ds.length = M_law.length → F_law ds P Xp → t_law (bodyE P Xp) (startE M_law ds N_law.length) := by
  intro ds P Xp hlen_ h
  obtain ⟨ns, rfl, hl, h⟩ := h
  have hc : (cutD (ns.map D.int) (some 2) (some 62)).length ≤ 63 := by
    have : (cutD (ns.map D.int) (some 2) (some 62)).length ≤ (ns.map D.int).length := by
      unfold cutD
      rw [List.length_take, List.length_drop]
      omega
    rw [List.length_map] at this
    omega
  have hsl : (cutD (ns.map D.int) (some 2) (some 62)).length + [D.int (ns.length : Int)].length ≤ sizeLine := sle_of (by show _ + 1 ≤ _; omega)
  obtain ⟨ms, hms, hm0, hm1⟩ : ∃ ms : List Int, cutD (ns.map D.int) (some 2) (some 62) ++ [D.int (ns.length : Int)] = ms.map D.int ∧ 0 < ms.length ∧ ms.length ≤ 64 := by
    refine ⟨cutD ns (some 2) (some 62) ++ [(ns.length : Int)], by rw [cutD_map, List.map_append] <;> rfl, by rw [List.length_append]; show 0 < _ + 1; omega, ?_⟩
    rw [cutD_map, List.length_map] at hc
    rw [List.length_append]
    show _ + 1 ≤ _
    omega
  (rw [e_law]; decreasing_trivial_pre_omega)
  intro seed hs0 hs1
  decreasing_trivial_pre_omega
  intro n hn h3
  have h8 : n ≤ 8 := by omega
  have h100 : n ≤ 100 := by omega
  have hnn : n * n ≤ 3 * 3 := Nat.mul_le_mul h3 h3
  decreasing_trivial_pre_omega
  intro oth ho0 ho1
  obtain ⟨k, hk⟩ : ∃ k : Nat, 1 + oth / 26 % 4 = k := ⟨_, (Int.toNat_of_nonneg (by omega)).symm⟩
  decreasing_trivial_pre_omega
  rw [hk]
  decreasing_trivial_pre_omega
  intro ls hls
  decreasing_trivial_pre_omega
  rw [hms]
  have hml : (ms.map D.int).length = ms.length := List.length_map ..
  decreasing_trivial_pre_omega
  intro f hfA
  have hf := okA_okC hfA
  have hto : argO [false, false] [cpD n f, .int 0] = true := by
    have e1 : (cpD n f).tO = true := tOL_map (fun _ => rfl) _
    show ((cpD n f).tO && true) = true
    rw [e1] <;> rfl
  decreasing_trivial_pre_omega
  refine ite_mid (fun e => ∃ most : Int, 0 ≤ most ∧ e = [.bor (.lst (ns.map D.int)), .val (.int seed), .val (.int (n : Nat)), .val (.int oth), .own (.lst (ls.map sgn)), .own (.lst (ms.map D.int)), .val (cpD n f), .val (.int most), .emp, .emp, .emp, .emp, .emp, .emp, .emp, .emp]) ?_ (fun hq K hK => ?_) fun hq K hK => ?_
  · rintro e ⟨most, hm0', rfl⟩
    have hto : argO [false, false] [cpD n f, .int most] = true := hto
    dsimp only
    decreasing_trivial_pre_omega
    intro _ G few hG hB
    have hfo := hB.ok
    have hfl := hB.len
    have hfw := hB.low
    have hbest := fun (W : List Mv) (hW : (chg n W f : Int) ≤ most) => best_wish hn h3 hG hB hW
    have hsame := fun G' few' (h1 : GroupsOk n G') (h2 : BestI n f most (· ∈ G') few') => best_same hn h3 hG hB h1 h2
    have hdl := diffL_len n (menF n few f) f
    decreasing_trivial_pre_omega
    intro kvs hT
    decreasing_trivial_pre_omega
    rw [Int.toNat_natCast]
    refine for_nat (fun i e => i ≤ ms.length ∧ ∃ s10 s11 s12 s13 s14 s15, e = [.bor (.lst (ns.map D.int)), .bor (.int seed), .bor (.int (n : Nat)), .bor (.int oth), .bor (.lst (ls.map sgn)), .bor (.lst (ms.map D.int)), .bor (cpD n f), .bor (.int most), .bor (.tup [.lst (few.map dM), .int (szM n few : Nat), menD n few f]), .bor (.dic true kvs), s10, s11, s12, s13, s14, s15]) ⟨by omega, _, _, _, _, _, _, rfl⟩ ?_ ?_
    · rintro e ⟨_, s10, s11, s12, s13, s14, s15, rfl⟩
      decreasing_trivial_pre_omega
      refine ite_d (fun h2 => ?_) fun h2 => ?_
      · decreasing_trivial_pre_omega
        exact h
      · decreasing_trivial_pre_omega
        exact h
    · rintro i d e hd ⟨_, s10, s11, s12, s13, s14, s15, rfl⟩ K hK
      obtain ⟨hi, rfl⟩ := rg_get hd
      have hK' : ∀ s10 s11 s12 s13 s14 s15, K [.bor (.lst (ns.map D.int)), .bor (.int seed), .bor (.int (n : Nat)), .bor (.int oth), .bor (.lst (ls.map sgn)), .bor (.lst (ms.map D.int)), .bor (cpD n f), .bor (.int most), .bor (.tup [.lst (few.map dM), .int (szM n few : Nat), menD n few f]), .bor (.dic true kvs), s10, s11, s12, s13, s14, s15] := fun s10 s11 s12 s13 s14 s15 => hK _ ⟨by omega, _, _, _, _, _, _, rfl⟩
      clear hK hd
      decreasing_trivial_pre_omega
      intro z
      decreasing_trivial_pre_omega
      intro cell hc0 hc1
      decreasing_trivial_pre_omega
      refine lc_rel (fun d => ∃ m : Mv, m.ok n ∧ d = dM m) (by rw [rg_len]; exact sle_of (by omega)) ?_ ?_
      · intro ds hds hdl
        obtain ⟨L, hL, rfl⟩ : ∃ L : List Mv, (∀ m ∈ L, m.ok n) ∧ ds = L.map dM := by
          clear hdl
          induction ds with
          | nil => exact ⟨[], by simp, rfl⟩
          | cons d ds ih =>
            obtain ⟨m, hm, rfl⟩ := hds d (by simp)
            obtain ⟨L, h1, rfl⟩ := ih fun d hd => hds d (by simp [hd])
            refine ⟨m :: L, fun y hy => ?_, rfl⟩
            rcases List.mem_cons.mp hy with e | e
            · rw [e]; exact hm
            · exact h1 y e
        have hb := hbest L
        unfold btr at hb
        have hcf : (List.map dP (diffL n (menF n few f) f)).length = chg n few f := List.length_map _
        decreasing_trivial_pre_omega
        by_cases hp : ((chg n L f : Nat) : Int) ≤ most
        · have hb2 := hb hp
          have ep : ((fun i j : Int => decide (i ≤ j)) ((chg n L f : Nat) : Int) most) = true := decide_eq_true hp
          rw [ep]
          decreasing_trivial_pre_omega
          refine ite_d (fun h24 => ?_) fun h24 => ?_
          · decreasing_trivial_pre_omega
            by_cases he : (D.int ((szM n L : Nat) : Int)).un = (D.int ((szM n few : Nat) : Int)).un
            · rw [decide_eq_true he]
              have he2 : ((szM n L : Nat) : Int) = ((szM n few : Nat) : Int) := D.int.inj he
              decreasing_trivial_pre_omega
              exact hK' _ _ _ _ _ _
            · rw [decide_eq_false he]
              decreasing_trivial_pre_omega
              exact hK' _ _ _ _ _ _
          · decreasing_trivial_pre_omega
            exact hK' _ _ _ _ _ _
        · have ep : ((fun i j : Int => decide (i ≤ j)) ((chg n L f : Nat) : Int) most) = false := decide_eq_false hp
          rw [ep]
          decreasing_trivial_pre_omega
          exact hK' _ _ _ _ _ _
      · rintro d hd K hK
        obtain ⟨j, hj, rfl⟩ := mem_rg hd
        decreasing_trivial_pre_omega
        intro z
        decreasing_trivial_pre_omega
        intro x hx0 hx1
        decreasing_trivial_pre_omega
        intro m hm
        decreasing_trivial_pre_omega
        exact hK _ ⟨_, hm, rfl⟩
  · decreasing_trivial_pre_omega
    exact hK _ ⟨_, by omega, rfl⟩
  · exact hK _ ⟨_, by omega, rfl⟩
theorem o_turned_place {c : Cfg} {k : Nat} {f : Addr} {fd : FuncData} (Fu : Fun c.K "turned_place" "turned_place" s_turned_place f fd) (g_SIGNS : Glb c "SIGNS" K_SIGNS) : FnOk c.P c.w c.K c.mg c.base (L2.CX c.P c.w) (k + 1) f fd ["way", "place"] (spV c M_turned_place F_turned_place) :=
  fn_ok Fu sc_turned_place rfl (b_turned_place g_SIGNS) h_turned_place
theorem o_led {c : Cfg} {k : Nat} {f : Addr} {fd : FuncData} (Fu : Fun c.K "led" "led" s_led f fd) (f_turned_place : FnC (c.lv k) "turned_place" M_turned_place F_turned_place) : FnOk c.P c.w c.K c.mg c.base (L2.CX c.P c.w) (k + 1) f fd ["n", "movement", "place"] (spV c M_led F_led) :=
  fn_ok Fu sc_led rfl (b_led f_turned_place) h_led
theorem o_way_of {c : Cfg} {k : Nat} {f : Addr} {fd : FuncData} (Fu : Fun c.K "way_of" "way_of" s_way_of f fd) (g_WAYS : Glb c "WAYS" K_WAYS) (g_SIGNS : Glb c "SIGNS" K_SIGNS) : FnOk c.P c.w c.K c.mg c.base (L2.CX c.P c.w) (k + 1) f fd ["signs"] (spV c M_way_of F_way_of) :=
  fn_ok Fu sc_way_of rfl (b_way_of g_WAYS g_SIGNS) h_way_of
theorem o_then {c : Cfg} {k : Nat} {f : Addr} {fd : FuncData} (Fu : Fun c.K "then" "then" s_then f fd) (f_way_of : FnC (c.lv k) "way_of" M_way_of F_way_of) (f_led : FnC (c.lv k) "led" M_led F_led) (g_SIGNS : Glb c "SIGNS" K_SIGNS) : FnOk c.P c.w c.K c.mg c.base (L2.CX c.P c.w) (k + 1) f fd ["n", "one", "other"] (spV c M_then F_then) :=
  fn_ok Fu sc_then rfl (b_then f_way_of f_led g_SIGNS) h_then
theorem o_circle_from {c : Cfg} {k : Nat} {f : Addr} {fd : FuncData} (Fu : Fun c.K "circle_from" "circle_from" s_circle_from f fd) (f_led : FnC (c.lv k) "led" M_led F_led) (m_sorted : c.mg "sorted" = none) : FnOk c.P c.w c.K c.mg c.base (L2.CX c.P c.w) (k + 1) f fd ["n", "movements", "place"] (spV c M_circle_from F_circle_from) :=
  fn_ok Fu sc_circle_from rfl (b_circle_from f_led m_sorted) h_circle_from
theorem o_circles {c : Cfg} {k : Nat} {f : Addr} {fd : FuncData} (Fu : Fun c.K "circles" "circles" s_circles f fd) (f_circle_from : FnC (c.lv k) "circle_from" M_circle_from F_circle_from) (m_range : c.mg "range" = none) : FnOk c.P c.w c.K c.mg c.base (L2.CX c.P c.w) (k + 1) f fd ["n", "movements"] (spV c M_circles F_circles) :=
  fn_ok Fu sc_circles rfl (b_circles f_circle_from m_range) h_circles
theorem o_made {c : Cfg} {k : Nat} {f : Addr} {fd : FuncData} (Fu : Fun c.K "made" "made" s_made f fd) (f_then : FnC (c.lv k) "then" M_then F_then) (m_sorted : c.mg "sorted" = none) : FnOk c.P c.w c.K c.mg c.base (L2.CX c.P c.w) (k + 1) f fd ["n", "movements"] (spV c M_made F_made) :=
  fn_ok Fu sc_made rfl (b_made f_then m_sorted) h_made
theorem o_most_had {c : Cfg} {k : Nat} {f : Addr} {fd : FuncData} (Fu : Fun c.K "most_had" "most_had" s_most_had f fd) (m_max : c.mg "max" = none) (m_sorted : c.mg "sorted" = none) : FnOk c.P c.w c.K c.mg c.base (L2.CX c.P c.w) (k + 1) f fd ["carpet", "places"] (spV c M_most_had F_most_had) :=
  fn_ok Fu sc_most_had rfl (b_most_had m_max m_sorted) h_most_had
theorem o_with_colours {c : Cfg} {k : Nat} {f : Addr} {fd : FuncData} (Fu : Fun c.K "with_colours" "with_colours" s_with_colours f fd) (m_range : c.mg "range" = none) (m_tuple : c.mg "tuple" = none) : FnOk c.P c.w c.K c.mg c.base (L2.CX c.P c.w) (k + 1) f fd ["side", "paper"] (spV c M_with_colours F_with_colours) :=
  fn_ok Fu sc_with_colours rfl (b_with_colours m_range m_tuple) h_with_colours
theorem o_by_paper {c : Cfg} {k : Nat} {f : Addr} {fd : FuncData} (Fu : Fun c.K "by_paper" "by_paper" s_by_paper f fd) (f_with_colours : FnC (c.lv k) "with_colours" M_with_colours F_with_colours) (m_len : c.mg "len" = none) (m_range : c.mg "range" = none) : FnOk c.P c.w c.K c.mg c.base (L2.CX c.P c.w) (k + 1) f fd ["carpet", "paper"] (spV c M_by_paper F_by_paper) :=
  fn_ok Fu sc_by_paper rfl (b_by_paper f_with_colours m_len m_range) h_by_paper
theorem o_mended {c : Cfg} {k : Nat} {f : Addr} {fd : FuncData} (Fu : Fun c.K "mended" "mended" s_mended f fd) (f_circles : FnC (c.lv k) "circles" M_circles F_circles) (f_most_had : FnC (c.lv k) "most_had" M_most_had F_most_had) (f_by_paper : FnC (c.lv k) "by_paper" M_by_paper F_by_paper) (m_len : c.mg "len" = none) : FnOk c.P c.w c.K c.mg c.base (L2.CX c.P c.w) (k + 1) f fd ["carpet", "wish"] (spV c M_mended F_mended) :=
  fn_ok Fu sc_mended rfl (b_mended f_circles f_most_had f_by_paper m_len) h_mended
theorem o_lattices {c : Cfg} {k : Nat} {f : Addr} {fd : FuncData} (Fu : Fun c.K "lattices" "lattices" s_lattices f fd) (f_made : FnC (c.lv k) "made" M_made F_made) (m_range : c.mg "range" = none) (m_divmod : c.mg "divmod" = none) (m_tuple : c.mg "tuple" = none) (m_list : c.mg "list" = none) : FnOk c.P c.w c.K c.mg c.base (L2.CX c.P c.w) (k + 1) f fd ["side"] (spV c M_lattices F_lattices) :=
  fn_ok Fu sc_lattices rfl (b_lattices f_made m_range m_divmod m_tuple m_list) h_lattices
theorem o_lifts {c : Cfg} {k : Nat} {f : Addr} {fd : FuncData} (Fu : Fun c.K "lifts" "lifts" s_lifts f fd) (m_range : c.mg "range" = none) : FnOk c.P c.w c.K c.mg c.base (L2.CX c.P c.w) (k + 1) f fd ["side", "head", "shoves"] (spV c M_lifts F_lifts) :=
  fn_ok Fu sc_lifts rfl (b_lifts m_range) h_lifts
theorem o_divisor {c : Cfg} {k : Nat} {f : Addr} {fd : FuncData} (Fu : Fun c.K "divisor" "divisor" s_divisor f fd) : FnOk c.P c.w c.K c.mg c.base (L2.CX c.P c.w) (k + 1) f fd ["numbers"] (spV c M_divisor F_divisor) :=
  fn_ok Fu sc_divisor rfl (b_divisor ) h_divisor
theorem o_all_groups {c : Cfg} {k : Nat} {f : Addr} {fd : FuncData} (Fu : Fun c.K "all_groups" "all_groups" s_all_groups f fd) (f_lattices : FnC (c.lv k) "lattices" M_lattices F_lattices) (f_lifts : FnC (c.lv k) "lifts" M_lifts F_lifts) (g_HEADS : Glb c "HEADS" K_HEADS) (g_HEAD_SIZES : Glb c "HEAD_SIZES" K_HEAD_SIZES) (m_enumerate : c.mg "enumerate" = none) : FnOk c.P c.w c.K c.mg c.base (L2.CX c.P c.w) (k + 1) f fd ["side"] (spV c M_all_groups F_all_groups) :=
  fn_ok Fu sc_all_groups rfl (b_all_groups f_lattices f_lifts g_HEADS g_HEAD_SIZES m_enumerate) h_all_groups
theorem o_bettered {c : Cfg} {k : Nat} {f : Addr} {fd : FuncData} (Fu : Fun c.K "bettered" "bettered" s_bettered f fd) (f_all_groups : FnC (c.lv k) "all_groups" M_all_groups F_all_groups) (f_circles : FnC (c.lv k) "circles" M_circles F_circles) (f_most_had : FnC (c.lv k) "most_had" M_most_had F_most_had) (f_divisor : FnC (c.lv k) "divisor" M_divisor F_divisor) (f_made : FnC (c.lv k) "made" M_made F_made) (f_mended : FnC (c.lv k) "mended" M_mended F_mended) (g_LARGEST : Glb c "LARGEST" K_LARGEST) (m_len : c.mg "len" = none) (m_sum : c.mg "sum" = none) (i_TooLarge : XICls c "TooLarge" "many") (hk_lv : 2 ≤ k) : FnOk c.P c.w c.K c.mg c.base (L2.CX c.P c.w) (k + 1) f fd ["carpet", "most"] (spV c M_bettered F_bettered) :=
  fn_ok Fu sc_bettered rfl (b_bettered f_all_groups f_circles f_most_had f_divisor f_made f_mended g_LARGEST m_len m_sum i_TooLarge hk_lv) h_bettered
theorem o_L_cell_at {c : Cfg} {k : Nat} {f : Addr} {fd : FuncData} (Fu : Fun c.K "_law_cell_at" "_law_cell_at" s_L_cell_at f fd) (m_len : c.mg "len" = none) : FnOk c.P c.w c.K c.mg c.base (L2.CX c.P c.w) (k + 1) f fd ["_law_script", "_law_k"] (spV c M_L_cell_at F_L_cell_at) :=
  fn_ok Fu sc_L_cell_at rfl (b_L_cell_at m_len) h_L_cell_at
theorem o_L_whole {c : Cfg} {k : Nat} {f : Addr} {fd : FuncData} (Fu : Fun c.K "_law_whole" "_law_whole" s_L_whole f fd) (m_int : c.mg "int" = none) (m_isinstance : c.mg "isinstance" = none) (m_bool : c.mg "bool" = none) : FnOk c.P c.w c.K c.mg c.base (L2.CX c.P c.w) (k + 1) f fd ["_law_found"] (spV c M_L_whole F_L_whole) :=
  fn_ok Fu sc_L_whole rfl (b_L_whole m_int m_isinstance m_bool) h_L_whole
theorem o_L_mixed {c : Cfg} {k : Nat} {f : Addr} {fd : FuncData} (Fu : Fun c.K "_law_mixed" "_law_mixed" s_L_mixed f fd) : FnOk c.P c.w c.K c.mg c.base (L2.CX c.P c.w) (k + 1) f fd ["_law_cell", "_law_k"] (spV c M_L_mixed F_L_mixed) :=
  fn_ok Fu sc_L_mixed rfl (b_L_mixed ) h_L_mixed
theorem o_L_led {c : Cfg} {k : Nat} {f : Addr} {fd : FuncData} (Fu : Fun c.K "_law_led" "_law_led" s_L_led f fd) : FnOk c.P c.w c.K c.mg c.base (L2.CX c.P c.w) (k + 1) f fd ["_law_n", "_law_movement_here", "_law_place"] (spV c M_L_led F_L_led) :=
  fn_ok Fu sc_L_led rfl (b_L_led ) h_L_led
theorem o_L_moved {c : Cfg} {k : Nat} {f : Addr} {fd : FuncData} (Fu : Fun c.K "_law_moved" "_law_moved" s_L_moved f fd) (f_L_led : FnC (c.lv k) "_law_led" M_L_led F_L_led) (m_len : c.mg "len" = none) (m_range : c.mg "range" = none) (m_tuple : c.mg "tuple" = none) : FnOk c.P c.w c.K c.mg c.base (L2.CX c.P c.w) (k + 1) f fd ["_law_carpet_here", "_law_movement_here"] (spV c M_L_moved F_L_moved) :=
  fn_ok Fu sc_L_moved rfl (b_L_moved f_L_led m_len m_range m_tuple) h_L_moved
theorem o_L_all {c : Cfg} {k : Nat} {f : Addr} {fd : FuncData} (Fu : Fun c.K "_law_all" "_law_all" s_L_all f fd) (m_range : c.mg "range" = none) : FnOk c.P c.w c.K c.mg c.base (L2.CX c.P c.w) (k + 1) f fd ["_law_n"] (spV c M_L_all F_L_all) :=
  fn_ok Fu sc_L_all rfl (b_L_all m_range) h_L_all
theorem o_L_movement {c : Cfg} {k : Nat} {f : Addr} {fd : FuncData} (Fu : Fun c.K "_law_movement" "_law_movement" s_L_movement f fd) (f_L_all : FnC (c.lv k) "_law_all" M_L_all F_L_all) : FnOk c.P c.w c.K c.mg c.base (L2.CX c.P c.w) (k + 1) f fd ["_law_n", "_law_cell"] (spV c M_L_movement F_L_movement) :=
  fn_ok Fu sc_L_movement rfl (b_L_movement f_L_all) h_L_movement
theorem o_L_is_movement {c : Cfg} {k : Nat} {f : Addr} {fd : FuncData} (Fu : Fun c.K "_law_is_movement" "_law_is_movement" s_L_is_movement f fd) (f_L_whole : FnC (c.lv k) "_law_whole" M_L_whole F_L_whole) (f_L_all : FnC (c.lv k) "_law_all" M_L_all F_L_all) (m_tuple : c.mg "tuple" = none) (m_isinstance : c.mg "isinstance" = none) (m_len : c.mg "len" = none) : FnOk c.P c.w c.K c.mg c.base (L2.CX c.P c.w) (k + 1) f fd ["_law_n", "_law_found"] (spV c M_L_is_movement F_L_is_movement) :=
  fn_ok Fu sc_L_is_movement rfl (b_L_is_movement f_L_whole f_L_all m_tuple m_isinstance m_len) h_L_is_movement
theorem o_L_letters {c : Cfg} {k : Nat} {f : Addr} {fd : FuncData} (Fu : Fun c.K "_law_letters" "_law_letters" s_L_letters f fd) (m_range : c.mg "range" = none) : FnOk c.P c.w c.K c.mg c.base (L2.CX c.P c.w) (k + 1) f fd ["_law_seed", "_law_many"] (spV c M_L_letters F_L_letters) :=
  fn_ok Fu sc_L_letters rfl (b_L_letters m_range) h_L_letters
theorem o_L_carpet {c : Cfg} {k : Nat} {f : Addr} {fd : FuncData} (Fu : Fun c.K "_law_carpet" "_law_carpet" s_L_carpet f fd) (f_L_mixed : FnC (c.lv k) "_law_mixed" M_L_mixed F_L_mixed) (m_range : c.mg "range" = none) (m_min : c.mg "min" = none) (m_len : c.mg "len" = none) (m_tuple : c.mg "tuple" = none) : FnOk c.P c.w c.K c.mg c.base (L2.CX c.P c.w) (k + 1) f fd ["_law_cells", "_law_n", "_law_letters_here", "_law_seed"] (spV c M_L_carpet F_L_carpet) :=
  fn_ok Fu sc_L_carpet rfl (b_L_carpet f_L_mixed m_range m_min m_len m_tuple) h_L_carpet
theorem o_L_circles {c : Cfg} {k : Nat} {f : Addr} {fd : FuncData} (Fu : Fun c.K "_law_circles" "_law_circles" s_L_circles f fd) (f_L_led : FnC (c.lv k) "_law_led" M_L_led F_L_led) (m_range : c.mg "range" = none) (m_divmod : c.mg "divmod" = none) (m_len : c.mg "len" = none) (m_sorted : c.mg "sorted" = none) : FnOk c.P c.w c.K c.mg c.base (L2.CX c.P c.w) (k + 1) f fd ["_law_n", "_law_wish"] (spV c M_L_circles F_L_circles) :=
  fn_ok Fu sc_L_circles rfl (b_L_circles f_L_led m_range m_divmod m_len m_sorted) h_L_circles
theorem o_L_had {c : Cfg} {k : Nat} {f : Addr} {fd : FuncData} (Fu : Fun c.K "_law_had" "_law_had" s_L_had f fd) : FnOk c.P c.w c.K c.mg c.base (L2.CX c.P c.w) (k + 1) f fd ["_law_carpet_here", "_law_spots"] (spV c M_L_had F_L_had) :=
  fn_ok Fu sc_L_had rfl (b_L_had ) h_L_had
theorem o_L_image {c : Cfg} {k : Nat} {f : Addr} {fd : FuncData} (Fu : Fun c.K "_law_image" "_law_image" s_L_image f fd) (f_L_led : FnC (c.lv k) "_law_led" M_L_led F_L_led) : FnOk c.P c.w c.K c.mg c.base (L2.CX c.P c.w) (k + 1) f fd ["_law_ways"] (spV c M_L_image F_L_image) :=
  fn_ok Fu sc_L_image rfl (b_L_image f_L_led) h_L_image
theorem o_L_table {c : Cfg} {k : Nat} {f : Addr} {fd : FuncData} (Fu : Fun c.K "_law_table" "_law_table" s_L_table f fd) (f_L_image : FnC (c.lv k) "_law_image" M_L_image F_L_image) : FnOk c.P c.w c.K c.mg c.base (L2.CX c.P c.w) (k + 1) f fd [] (spV c M_L_table F_L_table) :=
  fn_ok Fu sc_L_table rfl (b_L_table f_L_image) h_L_table
theorem o_L_size {c : Cfg} {k : Nat} {f : Addr} {fd : FuncData} (Fu : Fun c.K "_law_size" "_law_size" s_L_size f fd) (f_L_led : FnC (c.lv k) "_law_led" M_L_led F_L_led) (m_len : c.mg "len" = none) : FnOk c.P c.w c.K c.mg c.base (L2.CX c.P c.w) (k + 1) f fd ["_law_n", "_law_wish", "_law_table_here"] (spV c M_L_size F_L_size) :=
  fn_ok Fu sc_L_size rfl (b_L_size f_L_led m_len) h_L_size
theorem o_L_price {c : Cfg} {k : Nat} {f : Addr} {fd : FuncData} (Fu : Fun c.K "_law_price" "_law_price" s_L_price f fd) (f_L_circles : FnC (c.lv k) "_law_circles" M_L_circles F_L_circles) (f_L_had : FnC (c.lv k) "_law_had" M_L_had F_L_had) (m_len : c.mg "len" = none) (m_list : c.mg "list" = none) (m_max : c.mg "max" = none) : FnOk c.P c.w c.K c.mg c.base (L2.CX c.P c.w) (k + 1) f fd ["_law_carpet_here", "_law_wish"] (spV c M_L_price F_L_price) :=
  fn_ok Fu sc_L_price rfl (b_L_price f_L_circles f_L_had m_len m_list m_max) h_L_price
theorem o_L_told_well {c : Cfg} {k : Nat} {f : Addr} {fd : FuncData} (Fu : Fun c.K "_law_told_well" "_law_told_well" s_L_told_well f fd) (f_L_whole : FnC (c.lv k) "_law_whole" M_L_whole F_L_whole) (f_L_is_movement : FnC (c.lv k) "_law_is_movement" M_L_is_movement F_L_is_movement) (f_L_size : FnC (c.lv k) "_law_size" M_L_size F_L_size) (f_mended : FnC (c.lv k) "mended" M_mended F_mended) (f_L_moved : FnC (c.lv k) "_law_moved" M_L_moved F_L_moved) (m_len : c.mg "len" = none) (m_tuple : c.mg "tuple" = none) (m_isinstance : c.mg "isinstance" = none) (m_list : c.mg "list" = none) (m_range : c.mg "range" = none) (m_divmod : c.mg "divmod" = none) : FnOk c.P c.w c.K c.mg c.base (L2.CX c.P c.w) (k + 1) f fd ["_law_found", "_law_carpet_here", "_law_most", "_law_table_here"] (spV c M_L_told_well F_L_told_well) :=
  fn_ok Fu sc_L_told_well rfl (b_L_told_well f_L_whole f_L_is_movement f_L_size f_mended f_L_moved m_len m_tuple m_isinstance m_list m_range m_divmod) h_L_told_well
theorem o_L_again {c : Cfg} {k : Nat} {f : Addr} {fd : FuncData} (Fu : Fun c.K "_law_again" "_law_again" s_L_again f fd) (f_bettered : FnC (c.lv k) "bettered" M_bettered F_bettered) (f_L_told_well : FnC (c.lv k) "_law_told_well" M_L_told_well F_L_told_well) (m_len : c.mg "len" = none) : FnOk c.P c.w c.K c.mg c.base (L2.CX c.P c.w) (k + 1) f fd ["_law_found", "_law_carpet_here", "_law_most", "_law_table_here"] (spP c M_L_again F_L_again) :=
  fn_okP Fu sc_L_again rfl (b_L_again f_bettered f_L_told_well m_len) h_L_again
theorem o_law {c : Cfg} {k : Nat} {f : Addr} {fd : FuncData} (Fu : Fun c.K "law" "law" s_law f fd) (f_bettered : FnC (c.lv k) "bettered" M_bettered F_bettered) (f_L_told_well : FnC (c.lv k) "_law_told_well" M_L_told_well F_L_told_well) (f_L_mixed : FnC (c.lv k) "_law_mixed" M_L_mixed F_L_mixed) (f_L_movement : FnC (c.lv k) "_law_movement" M_L_movement F_L_movement) (f_L_price : FnC (c.lv k) "_law_price" M_L_price F_L_price) (f_L_size : FnC (c.lv k) "_law_size" M_L_size F_L_size) (f_L_table : FnC (c.lv k) "_law_table" M_L_table F_L_table) (f_L_carpet : FnC (c.lv k) "_law_carpet" M_L_carpet F_L_carpet) (f_L_letters : FnC (c.lv k) "_law_letters" M_L_letters F_L_letters) (f_L_cell_at : FnC (c.lv k) "_law_cell_at" M_L_cell_at F_L_cell_at) (p_L_again : FnP (c.lv k) "_law_again" M_L_again F_L_again) (m_len : c.mg "len" = none) (m_range : c.mg "range" = none) : FnOk c.P c.w c.K c.mg c.base (L2.CX c.P c.w) (k + 1) f fd ["_law_script"] (spV c M_law F_law) :=
  fn_ok Fu sc_law rfl (b_law f_bettered f_L_told_well f_L_mixed f_L_movement f_L_price f_L_size f_L_table f_L_carpet f_L_letters f_L_cell_at p_L_again m_len m_range) h_law
theorem all_mk {P : Program} {w : World} {K : PySem.W.Frag} {h : Heap} {mg : Str → Option Value} {fa f0 f1 f2 f3 f4 f5 f6 f7 f8 f9 f10 f11 f12 f13 f14 f15 f16 f17 f18 f19 f20 f21 f22 f23 f24 f25 f26 f27 f28 f29 f30 f31 f32 f33 f34 : Addr} (X : K.In h) (G : h.Ns mainGlobals mg) (hfa : mg "law" = some (.ref fa))
    {od0 an0 : Option Addr} {sl0 : Array (Option Value)} {oc0 kV0 dc0 pm0 cd0 ct0 : Value}
    (a0 : PySem.W.nsIn K mainGlobals "turned_place" = some (some (.ref f0))) (l0 : K.lookup f0 = some ⟨oc0, od0, .func (PySem.W.fnOf "turned_place" "turned_place" (defArgs s_turned_place) (defBody s_turned_place) (defScope s_turned_place) .none kV0 dc0 pm0 an0 cd0 ct0), sl0⟩) (c0 : PySem.W.codeIn K cd0 "turned_place" = true) (k0 : PySem.W.keepIn K (.ref f0) = true)
    {od1 an1 : Option Addr} {sl1 : Array (Option Value)} {oc1 kV1 dc1 pm1 cd1 ct1 : Value}
    (a1 : PySem.W.nsIn K mainGlobals "led" = some (some (.ref f1))) (l1 : K.lookup f1 = some ⟨oc1, od1, .func (PySem.W.fnOf "led" "led" (defArgs s_led) (defBody s_led) (defScope s_led) .none kV1 dc1 pm1 an1 cd1 ct1), sl1⟩) (c1 : PySem.W.codeIn K cd1 "led" = true) (k1 : PySem.W.keepIn K (.ref f1) = true)
    {od2 an2 : Option Addr} {sl2 : Array (Option Value)} {oc2 kV2 dc2 pm2 cd2 ct2 : Value}
    (a2 : PySem.W.nsIn K mainGlobals "way_of" = some (some (.ref f2))) (l2 : K.lookup f2 = some ⟨oc2, od2, .func (PySem.W.fnOf "way_of" "way_of" (defArgs s_way_of) (defBody s_way_of) (defScope s_way_of) .none kV2 dc2 pm2 an2 cd2 ct2), sl2⟩) (c2 : PySem.W.codeIn K cd2 "way_of" = true) (k2 : PySem.W.keepIn K (.ref f2) = true)
    {od3 an3 : Option Addr} {sl3 : Array (Option Value)} {oc3 kV3 dc3 pm3 cd3 ct3 : Value}
    (a3 : PySem.W.nsIn K mainGlobals "then" = some (some (.ref f3))) (l3 : K.lookup f3 = some ⟨oc3, od3, .func (PySem.W.fnOf "then" "then" (defArgs s_then) (defBody s_then) (defScope s_then) .none kV3 dc3 pm3 an3 cd3 ct3), sl3⟩) (c3 : PySem.W.codeIn K cd3 "then" = true) (k3 : PySem.W.keepIn K (.ref f3) = true)
    {od4 an4 : Option Addr} {sl4 : Array (Option Value)} {oc4 kV4 dc4 pm4 cd4 ct4 : Value}
    (a4 : PySem.W.nsIn K mainGlobals "circle_from" = some (some (.ref f4))) (l4 : K.lookup f4 = some ⟨oc4, od4, .func (PySem.W.fnOf "circle_from" "circle_from" (defArgs s_circle_from) (defBody s_circle_from) (defScope s_circle_from) .none kV4 dc4 pm4 an4 cd4 ct4), sl4⟩) (c4 : PySem.W.codeIn K cd4 "circle_from" = true) (k4 : PySem.W.keepIn K (.ref f4) = true)
    {od5 an5 : Option Addr} {sl5 : Array (Option Value)} {oc5 kV5 dc5 pm5 cd5 ct5 : Value}
    (a5 : PySem.W.nsIn K mainGlobals "circles" = some (some (.ref f5))) (l5 : K.lookup f5 = some ⟨oc5, od5, .func (PySem.W.fnOf "circles" "circles" (defArgs s_circles) (defBody s_circles) (defScope s_circles) .none kV5 dc5 pm5 an5 cd5 ct5), sl5⟩) (c5 : PySem.W.codeIn K cd5 "circles" = true) (k5 : PySem.W.keepIn K (.ref f5) = true)
    {od6 an6 : Option Addr} {sl6 : Array (Option Value)} {oc6 kV6 dc6 pm6 cd6 ct6 : Value}
    (a6 : PySem.W.nsIn K mainGlobals "made" = some (some (.ref f6))) (l6 : K.lookup f6 = some ⟨oc6, od6, .func (PySem.W.fnOf "made" "made" (defArgs s_made) (defBody s_made) (defScope s_made) .none kV6 dc6 pm6 an6 cd6 ct6), sl6⟩) (c6 : PySem.W.codeIn K cd6 "made" = true) (k6 : PySem.W.keepIn K (.ref f6) = true)
    {od7 an7 : Option Addr} {sl7 : Array (Option Value)} {oc7 kV7 dc7 pm7 cd7 ct7 : Value}
    (a7 : PySem.W.nsIn K mainGlobals "most_had" = some (some (.ref f7))) (l7 : K.lookup f7 = some ⟨oc7, od7, .func (PySem.W.fnOf "most_had" "most_had" (defArgs s_most_had) (defBody s_most_had) (defScope s_most_had) .none kV7 dc7 pm7 an7 cd7 ct7), sl7⟩) (c7 : PySem.W.codeIn K cd7 "most_had" = true) (k7 : PySem.W.keepIn K (.ref f7) = true)
    {od8 an8 : Option Addr} {sl8 : Array (Option Value)} {oc8 kV8 dc8 pm8 cd8 ct8 : Value}
    (a8 : PySem.W.nsIn K mainGlobals "with_colours" = some (some (.ref f8))) (l8 : K.lookup f8 = some ⟨oc8, od8, .func (PySem.W.fnOf "with_colours" "with_colours" (defArgs s_with_colours) (defBody s_with_colours) (defScope s_with_colours) .none kV8 dc8 pm8 an8 cd8 ct8), sl8⟩) (c8 : PySem.W.codeIn K cd8 "with_colours" = true) (k8 : PySem.W.keepIn K (.ref f8) = true)
    {od9 an9 : Option Addr} {sl9 : Array (Option Value)} {oc9 kV9 dc9 pm9 cd9 ct9 : Value}
    (a9 : PySem.W.nsIn K mainGlobals "by_paper" = some (some (.ref f9))) (l9 : K.lookup f9 = some ⟨oc9, od9, .func (PySem.W.fnOf "by_paper" "by_paper" (defArgs s_by_paper) (defBody s_by_paper) (defScope s_by_paper) .none kV9 dc9 pm9 an9 cd9 ct9), sl9⟩) (c9 : PySem.W.codeIn K cd9 "by_paper" = true) (k9 : PySem.W.keepIn K (.ref f9) = true)
    {od10 an10 : Option Addr} {sl10 : Array (Option Value)} {oc10 kV10 dc10 pm10 cd10 ct10 : Value}
    (a10 : PySem.W.nsIn K mainGlobals "mended" = some (some (.ref f10))) (l10 : K.lookup f10 = some ⟨oc10, od10, .func (PySem.W.fnOf "mended" "mended" (defArgs s_mended) (defBody s_mended) (defScope s_mended) .none kV10 dc10 pm10 an10 cd10 ct10), sl10⟩) (c10 : PySem.W.codeIn K cd10 "mended" = true) (k10 : PySem.W.keepIn K (.ref f10) = true)
    {od11 an11 : Option Addr} {sl11 : Array (Option Value)} {oc11 kV11 dc11 pm11 cd11 ct11 : Value}
    (a11 : PySem.W.nsIn K mainGlobals "lattices" = some (some (.ref f11))) (l11 : K.lookup f11 = some ⟨oc11, od11, .func (PySem.W.fnOf "lattices" "lattices" (defArgs s_lattices) (defBody s_lattices) (defScope s_lattices) .none kV11 dc11 pm11 an11 cd11 ct11), sl11⟩) (c11 : PySem.W.codeIn K cd11 "lattices" = true) (k11 : PySem.W.keepIn K (.ref f11) = true)
    {od12 an12 : Option Addr} {sl12 : Array (Option Value)} {oc12 kV12 dc12 pm12 cd12 ct12 : Value}
    (a12 : PySem.W.nsIn K mainGlobals "lifts" = some (some (.ref f12))) (l12 : K.lookup f12 = some ⟨oc12, od12, .func (PySem.W.fnOf "lifts" "lifts" (defArgs s_lifts) (defBody s_lifts) (defScope s_lifts) .none kV12 dc12 pm12 an12 cd12 ct12), sl12⟩) (c12 : PySem.W.codeIn K cd12 "lifts" = true) (k12 : PySem.W.keepIn K (.ref f12) = true)
    {od13 an13 : Option Addr} {sl13 : Array (Option Value)} {oc13 kV13 dc13 pm13 cd13 ct13 : Value}
    (a13 : PySem.W.nsIn K mainGlobals "divisor" = some (some (.ref f13))) (l13 : K.lookup f13 = some ⟨oc13, od13, .func (PySem.W.fnOf "divisor" "divisor" (defArgs s_divisor) (defBody s_divisor) (defScope s_divisor) .none kV13 dc13 pm13 an13 cd13 ct13), sl13⟩) (c13 : PySem.W.codeIn K cd13 "divisor" = true) (k13 : PySem.W.keepIn K (.ref f13) = true)
    {od14 an14 : Option Addr} {sl14 : Array (Option Value)} {oc14 kV14 dc14 pm14 cd14 ct14 : Value}
    (a14 : PySem.W.nsIn K mainGlobals "all_groups" = some (some (.ref f14))) (l14 : K.lookup f14 = some ⟨oc14, od14, .func (PySem.W.fnOf "all_groups" "all_groups" (defArgs s_all_groups) (defBody s_all_groups) (defScope s_all_groups) .none kV14 dc14 pm14 an14 cd14 ct14), sl14⟩) (c14 : PySem.W.codeIn K cd14 "all_groups" = true) (k14 : PySem.W.keepIn K (.ref f14) = true)
    {od15 an15 : Option Addr} {sl15 : Array (Option Value)} {oc15 kV15 dc15 pm15 cd15 ct15 : Value}
    (a15 : PySem.W.nsIn K mainGlobals "bettered" = some (some (.ref f15))) (l15 : K.lookup f15 = some ⟨oc15, od15, .func (PySem.W.fnOf "bettered" "bettered" (defArgs s_bettered) (defBody s_bettered) (defScope s_bettered) .none kV15 dc15 pm15 an15 cd15 ct15), sl15⟩) (c15 : PySem.W.codeIn K cd15 "bettered" = true) (k15 : PySem.W.keepIn K (.ref f15) = true)
    {od16 an16 : Option Addr} {sl16 : Array (Option Value)} {oc16 kV16 dc16 pm16 cd16 ct16 : Value}
    (a16 : PySem.W.nsIn K mainGlobals "_law_cell_at" = some (some (.ref f16))) (l16 : K.lookup f16 = some ⟨oc16, od16, .func (PySem.W.fnOf "_law_cell_at" "_law_cell_at" (defArgs s_L_cell_at) (defBody s_L_cell_at) (defScope s_L_cell_at) .none kV16 dc16 pm16 an16 cd16 ct16), sl16⟩) (c16 : PySem.W.codeIn K cd16 "_law_cell_at" = true) (k16 : PySem.W.keepIn K (.ref f16) = true)
    {od17 an17 : Option Addr} {sl17 : Array (Option Value)} {oc17 kV17 dc17 pm17 cd17 ct17 : Value}
    (a17 : PySem.W.nsIn K mainGlobals "_law_whole" = some (some (.ref f17))) (l17 : K.lookup f17 = some ⟨oc17, od17, .func (PySem.W.fnOf "_law_whole" "_law_whole" (defArgs s_L_whole) (defBody s_L_whole) (defScope s_L_whole) .none kV17 dc17 pm17 an17 cd17 ct17), sl17⟩) (c17 : PySem.W.codeIn K cd17 "_law_whole" = true) (k17 : PySem.W.keepIn K (.ref f17) = true)
    {od18 an18 : Option Addr} {sl18 : Array (Option Value)} {oc18 kV18 dc18 pm18 cd18 ct18 : Value}
    (a18 : PySem.W.nsIn K mainGlobals "_law_mixed" = some (some (.ref f18))) (l18 : K.lookup f18 = some ⟨oc18, od18, .func (PySem.W.fnOf "_law_mixed" "_law_mixed" (defArgs s_L_mixed) (defBody s_L_mixed) (defScope s_L_mixed) .none kV18 dc18 pm18 an18 cd18 ct18), sl18⟩) (c18 : PySem.W.codeIn K cd18 "_law_mixed" = true) (k18 : PySem.W.keepIn K (.ref f18) = true)
    {od19 an19 : Option Addr} {sl19 : Array (Option Value)} {oc19 kV19 dc19 pm19 cd19 ct19 : Value}
    (a19 : PySem.W.nsIn K mainGlobals "_law_led" = some (some (.ref f19))) (l19 : K.lookup f19 = some ⟨oc19, od19, .func (PySem.W.fnOf "_law_led" "_law_led" (defArgs s_L_led) (defBody s_L_led) (defScope s_L_led) .none kV19 dc19 pm19 an19 cd19 ct19), sl19⟩) (c19 : PySem.W.codeIn K cd19 "_law_led" = true) (k19 : PySem.W.keepIn K (.ref f19) = true)
    {od20 an20 : Option Addr} {sl20 : Array (Option Value)} {oc20 kV20 dc20 pm20 cd20 ct20 : Value}
    (a20 : PySem.W.nsIn K mainGlobals "_law_moved" = some (some (.ref f20))) (l20 : K.lookup f20 = some ⟨oc20, od20, .func (PySem.W.fnOf "_law_moved" "_law_moved" (defArgs s_L_moved) (defBody s_L_moved) (defScope s_L_moved) .none kV20 dc20 pm20 an20 cd20 ct20), sl20⟩) (c20 : PySem.W.codeIn K cd20 "_law_moved" = true) (k20 : PySem.W.keepIn K (.ref f20) = true)
    {od21 an21 : Option Addr} {sl21 : Array (Option Value)} {oc21 kV21 dc21 pm21 cd21 ct21 : Value}
    (a21 : PySem.W.nsIn K mainGlobals "_law_all" = some (some (.ref f21))) (l21 : K.lookup f21 = some ⟨oc21, od21, .func (PySem.W.fnOf "_law_all" "_law_all" (defArgs s_L_all) (defBody s_L_all) (defScope s_L_all) .none kV21 dc21 pm21 an21 cd21 ct21), sl21⟩) (c21 : PySem.W.codeIn K cd21 "_law_all" = true) (k21 : PySem.W.keepIn K (.ref f21) = true)
    {od22 an22 : Option Addr} {sl22 : Array (Option Value)} {oc22 kV22 dc22 pm22 cd22 ct22 : Value}
    (a22 : PySem.W.nsIn K mainGlobals "_law_movement" = some (some (.ref f22))) (l22 : K.lookup f22 = some ⟨oc22, od22, .func (PySem.W.fnOf "_law_movement" "_law_movement" (defArgs s_L_movement) (defBody s_L_movement) (defScope s_L_movement) .none kV22 dc22 pm22 an22 cd22 ct22), sl22⟩) (c22 : PySem.W.codeIn K cd22 "_law_movement" = true) (k22 : PySem.W.keepIn K (.ref f22) = true)
    {od23 an23 : Option Addr} {sl23 : Array (Option Value)} {oc23 kV23 dc23 pm23 cd23 ct23 : Value}
    (a23 : PySem.W.nsIn K mainGlobals "_law_is_movement" = some (some (.ref f23))) (l23 : K.lookup f23 = some ⟨oc23, od23, .func (PySem.W.fnOf "_law_is_movement" "_law_is_movement" (defArgs s_L_is_movement) (defBody s_L_is_movement) (defScope s_L_is_movement) .none kV23 dc23 pm23 an23 cd23 ct23), sl23⟩) (c23 : PySem.W.codeIn K cd23 "_law_is_movement" = true) (k23 : PySem.W.keepIn K (.ref f23) = true)
    {od24 an24 : Option Addr} {sl24 : Array (Option Value)} {oc24 kV24 dc24 pm24 cd24 ct24 : Value}
    (a24 : PySem.W.nsIn K mainGlobals "_law_letters" = some (some (.ref f24))) (l24 : K.lookup f24 = some ⟨oc24, od24, .func (PySem.W.fnOf "_law_letters" "_law_letters" (defArgs s_L_letters) (defBody s_L_letters) (defScope s_L_letters) .none kV24 dc24 pm24 an24 cd24 ct24), sl24⟩) (c24 : PySem.W.codeIn K cd24 "_law_letters" = true) (k24 : PySem.W.keepIn K (.ref f24) = true)
    {od25 an25 : Option Addr} {sl25 : Array (Option Value)} {oc25 kV25 dc25 pm25 cd25 ct25 : Value}
    (a25 : PySem.W.nsIn K mainGlobals "_law_carpet" = some (some (.ref f25))) (l25 : K.lookup f25 = some ⟨oc25, od25, .func (PySem.W.fnOf "_law_carpet" "_law_carpet" (defArgs s_L_carpet) (defBody s_L_carpet) (defScope s_L_carpet) .none kV25 dc25 pm25 an25 cd25 ct25), sl25⟩) (c25 : PySem.W.codeIn K cd25 "_law_carpet" = true) (k25 : PySem.W.keepIn K (.ref f25) = true)
    {od26 an26 : Option Addr} {sl26 : Array (Option Value)} {oc26 kV26 dc26 pm26 cd26 ct26 : Value}
    (a26 : PySem.W.nsIn K mainGlobals "_law_circles" = some (some (.ref f26))) (l26 : K.lookup f26 = some ⟨oc26, od26, .func (PySem.W.fnOf "_law_circles" "_law_circles" (defArgs s_L_circles) (defBody s_L_circles) (defScope s_L_circles) .none kV26 dc26 pm26 an26 cd26 ct26), sl26⟩) (c26 : PySem.W.codeIn K cd26 "_law_circles" = true) (k26 : PySem.W.keepIn K (.ref f26) = true)
    {od27 an27 : Option Addr} {sl27 : Array (Option Value)} {oc27 kV27 dc27 pm27 cd27 ct27 : Value}
    (a27 : PySem.W.nsIn K mainGlobals "_law_had" = some (some (.ref f27))) (l27 : K.lookup f27 = some ⟨oc27, od27, .func (PySem.W.fnOf "_law_had" "_law_had" (defArgs s_L_had) (defBody s_L_had) (defScope s_L_had) .none kV27 dc27 pm27 an27 cd27 ct27), sl27⟩) (c27 : PySem.W.codeIn K cd27 "_law_had" = true) (k27 : PySem.W.keepIn K (.ref f27) = true)
    {od28 an28 : Option Addr} {sl28 : Array (Option Value)} {oc28 kV28 dc28 pm28 cd28 ct28 : Value}
    (a28 : PySem.W.nsIn K mainGlobals "_law_image" = some (some (.ref f28))) (l28 : K.lookup f28 = some ⟨oc28, od28, .func (PySem.W.fnOf "_law_image" "_law_image" (defArgs s_L_image) (defBody s_L_image) (defScope s_L_image) .none kV28 dc28 pm28 an28 cd28 ct28), sl28⟩) (c28 : PySem.W.codeIn K cd28 "_law_image" = true) (k28 : PySem.W.keepIn K (.ref f28) = true)
    {od29 an29 : Option Addr} {sl29 : Array (Option Value)} {oc29 kV29 dc29 pm29 cd29 ct29 : Value}
    (a29 : PySem.W.nsIn K mainGlobals "_law_table" = some (some (.ref f29))) (l29 : K.lookup f29 = some ⟨oc29, od29, .func (PySem.W.fnOf "_law_table" "_law_table" (defArgs s_L_table) (defBody s_L_table) (defScope s_L_table) .none kV29 dc29 pm29 an29 cd29 ct29), sl29⟩) (c29 : PySem.W.codeIn K cd29 "_law_table" = true) (k29 : PySem.W.keepIn K (.ref f29) = true)
    {od30 an30 : Option Addr} {sl30 : Array (Option Value)} {oc30 kV30 dc30 pm30 cd30 ct30 : Value}
    (a30 : PySem.W.nsIn K mainGlobals "_law_size" = some (some (.ref f30))) (l30 : K.lookup f30 = some ⟨oc30, od30, .func (PySem.W.fnOf "_law_size" "_law_size" (defArgs s_L_size) (defBody s_L_size) (defScope s_L_size) .none kV30 dc30 pm30 an30 cd30 ct30), sl30⟩) (c30 : PySem.W.codeIn K cd30 "_law_size" = true) (k30 : PySem.W.keepIn K (.ref f30) = true)
    {od31 an31 : Option Addr} {sl31 : Array (Option Value)} {oc31 kV31 dc31 pm31 cd31 ct31 : Value}
    (a31 : PySem.W.nsIn K mainGlobals "_law_price" = some (some (.ref f31))) (l31 : K.lookup f31 = some ⟨oc31, od31, .func (PySem.W.fnOf "_law_price" "_law_price" (defArgs s_L_price) (defBody s_L_price) (defScope s_L_price) .none kV31 dc31 pm31 an31 cd31 ct31), sl31⟩) (c31 : PySem.W.codeIn K cd31 "_law_price" = true) (k31 : PySem.W.keepIn K (.ref f31) = true)
    {od32 an32 : Option Addr} {sl32 : Array (Option Value)} {oc32 kV32 dc32 pm32 cd32 ct32 : Value}
    (a32 : PySem.W.nsIn K mainGlobals "_law_told_well" = some (some (.ref f32))) (l32 : K.lookup f32 = some ⟨oc32, od32, .func (PySem.W.fnOf "_law_told_well" "_law_told_well" (defArgs s_L_told_well) (defBody s_L_told_well) (defScope s_L_told_well) .none kV32 dc32 pm32 an32 cd32 ct32), sl32⟩) (c32 : PySem.W.codeIn K cd32 "_law_told_well" = true) (k32 : PySem.W.keepIn K (.ref f32) = true)
    {od33 an33 : Option Addr} {sl33 : Array (Option Value)} {oc33 kV33 dc33 pm33 cd33 ct33 : Value}
    (a33 : PySem.W.nsIn K mainGlobals "_law_again" = some (some (.ref f33))) (l33 : K.lookup f33 = some ⟨oc33, od33, .func (PySem.W.fnOf "_law_again" "_law_again" (defArgs s_L_again) (defBody s_L_again) (defScope s_L_again) .none kV33 dc33 pm33 an33 cd33 ct33), sl33⟩) (c33 : PySem.W.codeIn K cd33 "_law_again" = true) (k33 : PySem.W.keepIn K (.ref f33) = true)
    {od34 an34 : Option Addr} {sl34 : Array (Option Value)} {oc34 kV34 dc34 pm34 cd34 ct34 : Value}
    (a34 : PySem.W.nsIn K mainGlobals "law" = some (some (.ref f34))) (l34 : K.lookup f34 = some ⟨oc34, od34, .func (PySem.W.fnOf "law" "law" (defArgs s_law) (defBody s_law) (defScope s_law) .none kV34 dc34 pm34 an34 cd34 ct34), sl34⟩) (c34 : PySem.W.codeIn K cd34 "law" = true) (k34 : PySem.W.keepIn K (.ref f34) = true)
    (z_sorted : PySem.W.nsIn K mainGlobals "sorted" = some none) (z_range : PySem.W.nsIn K mainGlobals "range" = some none) (z_max : PySem.W.nsIn K mainGlobals "max" = some none) (z_tuple : PySem.W.nsIn K mainGlobals "tuple" = some none) (z_len : PySem.W.nsIn K mainGlobals "len" = some none) (z_divmod : PySem.W.nsIn K mainGlobals "divmod" = some none) (z_list : PySem.W.nsIn K mainGlobals "list" = some none) (z_enumerate : PySem.W.nsIn K mainGlobals "enumerate" = some none) (z_sum : PySem.W.nsIn K mainGlobals "sum" = some none) (z_int : PySem.W.nsIn K mainGlobals "int" = some none) (z_isinstance : PySem.W.nsIn K mainGlobals "isinstance" = some none) (z_bool : PySem.W.nsIn K mainGlobals "bool" = some none) (z_min : PySem.W.nsIn K mainGlobals "min" = some none)
    {e_CarpetError : Addr} (ns_CarpetError : PySem.W.nsIn K mainGlobals "CarpetError" = some (some (.ref e_CarpetError)))
    {e_TooLarge : Addr} (ns_TooLarge : PySem.W.nsIn K mainGlobals "TooLarge" = some (some (.ref e_TooLarge)))
    (bg_CarpetError : PySem.W.specialIn K (.ref e_CarpetError) "__getattribute__" = some (some (.builtin "type.__getattribute__"))) (bt_CarpetError : PySem.W.typeIn K (.ref e_CarpetError) = some (.type "type")) (br_CarpetError : PySem.W.readsIn K e_CarpetError (.type "type") = true) (bf_CarpetError : PySem.W.findCls K (.ref e_CarpetError) (.type "type") "__init__" = some (.val (.builtin "ValueError.__init__")))
    {nm0 q0 N0 bs0 bm0 sn0 sub0 ab0 col0 dd0 kA0 kB0 kC0 kD0 kE0} (lk_TooLarge : K.lookup e_TooLarge = some (PySem.excClassObj nm0 q0 e_TooLarge N0 bs0 bm0 true sn0 sub0 ab0 col0 dd0 kA0 kB0 kC0 kD0 kE0 "ValueError.__new__")) (rv_TooLarge : PySem.HandSPX.refsVE bm0 = true)
    (sa_TooLarge : PySem.W.findIn K (.ref e_TooLarge) "__setattr__" = some (some (.builtin "object.__setattr__"))) (no_TooLarge : PySem.W.findIn K (.ref e_TooLarge) "many" = some none)
    {fi_TooLarge : Addr} (ii_TooLarge : PySem.W.findIn K (.ref e_TooLarge) "__init__" = some (some (.ref fi_TooLarge))) (it_TooLarge : PySem.W.typeIn K (.ref fi_TooLarge) = some (.type "function"))
    {odI0 anI0 : Option Addr} {slI0 : Array (Option Value)} {ocI0 kVI0 dcI0 pmI0 cdI0 ctI0 : Value} (li_TooLarge : K.lookup fi_TooLarge = some ⟨ocI0, odI0, .func (PySem.W.fnOf "__init__" "TooLarge.__init__" (defArgs si_TooLarge) (defBody si_TooLarge) (defScope si_TooLarge) .none kVI0 dcI0 pmI0 anI0 cdI0 ctI0), slI0⟩) (lc_TooLarge : PySem.W.codeIn K cdI0 "TooLarge.__init__" = true) (lq_TooLarge : PySem.W.keepIn K (.ref fi_TooLarge) = true)
    (kp_TooLarge : PySem.W.keepIn K (.ref e_TooLarge) = true) (sb_TooLarge : PySem.W.subIn K (.ref e_TooLarge) (.type "BaseException") = some true) (ty_TooLarge : PySem.W.typeIn K (.ref e_TooLarge) = some (.type "type"))
    (q_WAYS : ConstAt K w mainGlobals "WAYS" K_WAYS) (q_SIGNS : ConstAt K w mainGlobals "SIGNS" K_SIGNS) (q_LARGEST : ConstAt K w mainGlobals "LARGEST" K_LARGEST) (q_HEADS : ConstAt K w mainGlobals "HEADS" K_HEADS) (q_HEAD_SIZES : ConstAt K w mainGlobals "HEAD_SIZES" K_HEAD_SIZES)
    : ∃ fd : FuncData, (∀ (s : Shared) (v : Value), BindsTo s fd ⟨[v], []⟩ [("_law_script", v)]) ∧ ∀ base : Heap, K.In base → base.Ns mainGlobals mg → FnOk P w K mg base (L2.CX P w) 9 fa fd ["_law_script"] (spLaw K) := by
  have e := hfa.symm.trans (PySem.W.mg_of X G a34)
  cases e
  have F0 := fun_mk (st := s_turned_place) l0 c0 k0
  have F1 := fun_mk (st := s_led) l1 c1 k1
  have F2 := fun_mk (st := s_way_of) l2 c2 k2
  have F3 := fun_mk (st := s_then) l3 c3 k3
  have F4 := fun_mk (st := s_circle_from) l4 c4 k4
  have F5 := fun_mk (st := s_circles) l5 c5 k5
  have F6 := fun_mk (st := s_made) l6 c6 k6
  have F7 := fun_mk (st := s_most_had) l7 c7 k7
  have F8 := fun_mk (st := s_with_colours) l8 c8 k8
  have F9 := fun_mk (st := s_by_paper) l9 c9 k9
  have F10 := fun_mk (st := s_mended) l10 c10 k10
  have F11 := fun_mk (st := s_lattices) l11 c11 k11
  have F12 := fun_mk (st := s_lifts) l12 c12 k12
  have F13 := fun_mk (st := s_divisor) l13 c13 k13
  have F14 := fun_mk (st := s_all_groups) l14 c14 k14
  have F15 := fun_mk (st := s_bettered) l15 c15 k15
  have F16 := fun_mk (st := s_L_cell_at) l16 c16 k16
  have F17 := fun_mk (st := s_L_whole) l17 c17 k17
  have F18 := fun_mk (st := s_L_mixed) l18 c18 k18
  have F19 := fun_mk (st := s_L_led) l19 c19 k19
  have F20 := fun_mk (st := s_L_moved) l20 c20 k20
  have F21 := fun_mk (st := s_L_all) l21 c21 k21
  have F22 := fun_mk (st := s_L_movement) l22 c22 k22
  have F23 := fun_mk (st := s_L_is_movement) l23 c23 k23
  have F24 := fun_mk (st := s_L_letters) l24 c24 k24
  have F25 := fun_mk (st := s_L_carpet) l25 c25 k25
  have F26 := fun_mk (st := s_L_circles) l26 c26 k26
  have F27 := fun_mk (st := s_L_had) l27 c27 k27
  have F28 := fun_mk (st := s_L_image) l28 c28 k28
  have F29 := fun_mk (st := s_L_table) l29 c29 k29
  have F30 := fun_mk (st := s_L_size) l30 c30 k30
  have F31 := fun_mk (st := s_L_price) l31 c31 k31
  have F32 := fun_mk (st := s_L_told_well) l32 c32 k32
  have F33 := fun_mk (st := s_L_again) l33 c33 k33
  have F34 := fun_mk (st := s_law) l34 c34 k34
  refine ⟨PySem.W.fnOf "law" "law" (defArgs s_law) (defBody s_law) (defScope s_law) .none kV34 dc34 pm34 an34 cd34 ct34, fun s v => .of_eq rfl, fun base hb1 hb2 => ?_⟩
  let C : Cfg := { P := P, w := w, K := K, mg := mg, base := base, N := [], scope := defScope s_law, fn := fun _ => true, k := 0, top := true, calm := true }
  have m_sorted : C.mg "sorted" = none := PySem.W.mg_none_of X G z_sorted
  have m_range : C.mg "range" = none := PySem.W.mg_none_of X G z_range
  have m_max : C.mg "max" = none := PySem.W.mg_none_of X G z_max
  have m_tuple : C.mg "tuple" = none := PySem.W.mg_none_of X G z_tuple
  have m_len : C.mg "len" = none := PySem.W.mg_none_of X G z_len
  have m_divmod : C.mg "divmod" = none := PySem.W.mg_none_of X G z_divmod
  have m_list : C.mg "list" = none := PySem.W.mg_none_of X G z_list
  have m_enumerate : C.mg "enumerate" = none := PySem.W.mg_none_of X G z_enumerate
  have m_sum : C.mg "sum" = none := PySem.W.mg_none_of X G z_sum
  have m_int : C.mg "int" = none := PySem.W.mg_none_of X G z_int
  have m_isinstance : C.mg "isinstance" = none := PySem.W.mg_none_of X G z_isinstance
  have m_bool : C.mg "bool" = none := PySem.W.mg_none_of X G z_bool
  have m_min : C.mg "min" = none := PySem.W.mg_none_of X G z_min
  have g_WAYS : Glb C "WAYS" K_WAYS := q_WAYS.glb X G
  have g_SIGNS : Glb C "SIGNS" K_SIGNS := q_SIGNS.glb X G
  have g_LARGEST : Glb C "LARGEST" K_LARGEST := q_LARGEST.glb X G
  have g_HEADS : Glb C "HEADS" K_HEADS := q_HEADS.glb X G
  have g_HEAD_SIZES : Glb C "HEAD_SIZES" K_HEAD_SIZES := q_HEAD_SIZES.glb X G
  have b_CarpetError : BAt C "CarpetError" e_CarpetError := ⟨PySem.W.mg_of X G ns_CarpetError, bg_CarpetError, bt_CarpetError, br_CarpetError, bf_CarpetError⟩
  have T_TooLarge : OexC K e_TooLarge := ⟨⟨_, _, _, _, _, _, _, _, _, _, _, _, _, _, _, lk_TooLarge, rv_TooLarge⟩, sa_TooLarge, sb_TooLarge, ty_TooLarge, kp_TooLarge⟩
  have G_TooLarge := fun_mk (st := si_TooLarge) li_TooLarge lc_TooLarge lq_TooLarge
  have i_TooLarge : XICls C "TooLarge" "many" := ⟨e_TooLarge, fi_TooLarge, "many", _, ns_TooLarge, PySem.W.mg_of X G ns_TooLarge, T_TooLarge, ii_TooLarge, it_TooLarge, init_TooLarge (c := C) (k := 0) G_TooLarge T_TooLarge no_TooLarge b_CarpetError, G_TooLarge.binds (ps := ["self", "many"]) fun _ _ _ _ _ _ us hl => match us, hl with | [_, _], _ => rfl⟩
  have O_way_of := o_way_of (c := C) (k := 0) F2 g_WAYS g_SIGNS
  have B_way_of : Binds C.K _ ["signs"] [] := F2.binds (ps := ["signs"]) fun _ _ _ _ _ _ us hl => match us, hl with | [_], _ => rfl
  have O_turned_place := o_turned_place (c := C) (k := 0) F0 g_SIGNS
  have B_turned_place : Binds C.K _ ["way", "place"] [] := F0.binds (ps := ["way", "place"]) fun _ _ _ _ _ _ us hl => match us, hl with | [_, _], _ => rfl
  have O_led := o_led (c := C) (k := 1) F1 (FnC.lvl O_turned_place (PySem.W.mg_of X G a0) k0 B_turned_place (by decide))
  have B_led : Binds C.K _ ["n", "movement", "place"] [] := F1.binds (ps := ["n", "movement", "place"]) fun _ _ _ _ _ _ us hl => match us, hl with | [_, _, _], _ => rfl
  have O_then := o_then (c := C) (k := 2) F3 (FnC.lvl O_way_of (PySem.W.mg_of X G a2) k2 B_way_of (by decide)) (FnC.lvl O_led (PySem.W.mg_of X G a1) k1 B_led (by decide)) g_SIGNS
  have B_then : Binds C.K _ ["n", "one", "other"] [] := F3.binds (ps := ["n", "one", "other"]) fun _ _ _ _ _ _ us hl => match us, hl with | [_, _, _], _ => rfl
  have O_made := o_made (c := C) (k := 3) F6 (FnC.lvl O_then (PySem.W.mg_of X G a3) k3 B_then (by decide)) m_sorted
  have B_made : Binds C.K _ ["n", "movements"] [] := F6.binds (ps := ["n", "movements"]) fun _ _ _ _ _ _ us hl => match us, hl with | [_, _], _ => rfl
  have O_lattices := o_lattices (c := C) (k := 4) F11 (FnC.lvl O_made (PySem.W.mg_of X G a6) k6 B_made (by decide)) m_range m_divmod m_tuple m_list
  have B_lattices : Binds C.K _ ["side"] [] := F11.binds (ps := ["side"]) fun _ _ _ _ _ _ us hl => match us, hl with | [_], _ => rfl
  have O_lifts := o_lifts (c := C) (k := 0) F12 m_range
  have B_lifts : Binds C.K _ ["side", "head", "shoves"] [] := F12.binds (ps := ["side", "head", "shoves"]) fun _ _ _ _ _ _ us hl => match us, hl with | [_, _, _], _ => rfl
  have O_all_groups := o_all_groups (c := C) (k := 5) F14 (FnC.lvl O_lattices (PySem.W.mg_of X G a11) k11 B_lattices (by decide)) (FnC.lvl O_lifts (PySem.W.mg_of X G a12) k12 B_lifts (by decide)) g_HEADS g_HEAD_SIZES m_enumerate
  have B_all_groups : Binds C.K _ ["side"] [] := F14.binds (ps := ["side"]) fun _ _ _ _ _ _ us hl => match us, hl with | [_], _ => rfl
  have O_circle_from := o_circle_from (c := C) (k := 2) F4 (FnC.lvl O_led (PySem.W.mg_of X G a1) k1 B_led (by decide)) m_sorted
  have B_circle_from : Binds C.K _ ["n", "movements", "place"] [] := F4.binds (ps := ["n", "movements", "place"]) fun _ _ _ _ _ _ us hl => match us, hl with | [_, _, _], _ => rfl
  have O_circles := o_circles (c := C) (k := 3) F5 (FnC.lvl O_circle_from (PySem.W.mg_of X G a4) k4 B_circle_from (by decide)) m_range
  have B_circles : Binds C.K _ ["n", "movements"] [] := F5.binds (ps := ["n", "movements"]) fun _ _ _ _ _ _ us hl => match us, hl with | [_, _], _ => rfl
  have O_most_had := o_most_had (c := C) (k := 0) F7 m_max m_sorted
  have B_most_had : Binds C.K _ ["carpet", "places"] [] := F7.binds (ps := ["carpet", "places"]) fun _ _ _ _ _ _ us hl => match us, hl with | [_, _], _ => rfl
  have O_divisor := o_divisor (c := C) (k := 0) F13 
  have B_divisor : Binds C.K _ ["numbers"] [] := F13.binds (ps := ["numbers"]) fun _ _ _ _ _ _ us hl => match us, hl with | [_], _ => rfl
  have O_with_colours := o_with_colours (c := C) (k := 0) F8 m_range m_tuple
  have B_with_colours : Binds C.K _ ["side", "paper"] [] := F8.binds (ps := ["side", "paper"]) fun _ _ _ _ _ _ us hl => match us, hl with | [_, _], _ => rfl
  have O_by_paper := o_by_paper (c := C) (k := 1) F9 (FnC.lvl O_with_colours (PySem.W.mg_of X G a8) k8 B_with_colours (by decide)) m_len m_range
  have B_by_paper : Binds C.K _ ["carpet", "paper"] [] := F9.binds (ps := ["carpet", "paper"]) fun _ _ _ _ _ _ us hl => match us, hl with | [_, _], _ => rfl
  have O_mended := o_mended (c := C) (k := 4) F10 (FnC.lvl O_circles (PySem.W.mg_of X G a5) k5 B_circles (by decide)) (FnC.lvl O_most_had (PySem.W.mg_of X G a7) k7 B_most_had (by decide)) (FnC.lvl O_by_paper (PySem.W.mg_of X G a9) k9 B_by_paper (by decide)) m_len
  have B_mended : Binds C.K _ ["carpet", "wish"] [] := F10.binds (ps := ["carpet", "wish"]) fun _ _ _ _ _ _ us hl => match us, hl with | [_, _], _ => rfl
  have O_bettered := o_bettered (c := C) (k := 6) F15 (FnC.lvl O_all_groups (PySem.W.mg_of X G a14) k14 B_all_groups (by decide)) (FnC.lvl O_circles (PySem.W.mg_of X G a5) k5 B_circles (by decide)) (FnC.lvl O_most_had (PySem.W.mg_of X G a7) k7 B_most_had (by decide)) (FnC.lvl O_divisor (PySem.W.mg_of X G a13) k13 B_divisor (by decide)) (FnC.lvl O_made (PySem.W.mg_of X G a6) k6 B_made (by decide)) (FnC.lvl O_mended (PySem.W.mg_of X G a10) k10 B_mended (by decide)) g_LARGEST m_len m_sum i_TooLarge (by decide)
  have B_bettered : Binds C.K _ ["carpet", "most"] [] := F15.binds (ps := ["carpet", "most"]) fun _ _ _ _ _ _ us hl => match us, hl with | [_, _], _ => rfl
  have O_L_whole := o_L_whole (c := C) (k := 0) F17 m_int m_isinstance m_bool
  have B_L_whole : Binds C.K _ ["_law_found"] [] := F17.binds (ps := ["_law_found"]) fun _ _ _ _ _ _ us hl => match us, hl with | [_], _ => rfl
  have O_L_all := o_L_all (c := C) (k := 0) F21 m_range
  have B_L_all : Binds C.K _ ["_law_n"] [] := F21.binds (ps := ["_law_n"]) fun _ _ _ _ _ _ us hl => match us, hl with | [_], _ => rfl
  have O_L_is_movement := o_L_is_movement (c := C) (k := 1) F23 (FnC.lvl O_L_whole (PySem.W.mg_of X G a17) k17 B_L_whole (by decide)) (FnC.lvl O_L_all (PySem.W.mg_of X G a21) k21 B_L_all (by decide)) m_tuple m_isinstance m_len
  have B_L_is_movement : Binds C.K _ ["_law_n", "_law_found"] [] := F23.binds (ps := ["_law_n", "_law_found"]) fun _ _ _ _ _ _ us hl => match us, hl with | [_, _], _ => rfl
  have O_L_led := o_L_led (c := C) (k := 0) F19 
  have B_L_led : Binds C.K _ ["_law_n", "_law_movement_here", "_law_place"] [] := F19.binds (ps := ["_law_n", "_law_movement_here", "_law_place"]) fun _ _ _ _ _ _ us hl => match us, hl with | [_, _, _], _ => rfl
  have O_L_size := o_L_size (c := C) (k := 1) F30 (FnC.lvl O_L_led (PySem.W.mg_of X G a19) k19 B_L_led (by decide)) m_len
  have B_L_size : Binds C.K _ ["_law_n", "_law_wish", "_law_table_here"] [] := F30.binds (ps := ["_law_n", "_law_wish", "_law_table_here"]) fun _ _ _ _ _ _ us hl => match us, hl with | [_, _, _], _ => rfl
  have O_L_moved := o_L_moved (c := C) (k := 1) F20 (FnC.lvl O_L_led (PySem.W.mg_of X G a19) k19 B_L_led (by decide)) m_len m_range m_tuple
  have B_L_moved : Binds C.K _ ["_law_carpet_here", "_law_movement_here"] [] := F20.binds (ps := ["_law_carpet_here", "_law_movement_here"]) fun _ _ _ _ _ _ us hl => match us, hl with | [_, _], _ => rfl
  have O_L_told_well := o_L_told_well (c := C) (k := 5) F32 (FnC.lvl O_L_whole (PySem.W.mg_of X G a17) k17 B_L_whole (by decide)) (FnC.lvl O_L_is_movement (PySem.W.mg_of X G a23) k23 B_L_is_movement (by decide)) (FnC.lvl O_L_size (PySem.W.mg_of X G a30) k30 B_L_size (by decide)) (FnC.lvl O_mended (PySem.W.mg_of X G a10) k10 B_mended (by decide)) (FnC.lvl O_L_moved (PySem.W.mg_of X G a20) k20 B_L_moved (by decide)) m_len m_tuple m_isinstance m_list m_range m_divmod
  have B_L_told_well : Binds C.K _ ["_law_found", "_law_carpet_here", "_law_most", "_law_table_here"] [] := F32.binds (ps := ["_law_found", "_law_carpet_here", "_law_most", "_law_table_here"]) fun _ _ _ _ _ _ us hl => match us, hl with | [_, _, _, _], _ => rfl
  have O_L_mixed := o_L_mixed (c := C) (k := 0) F18 
  have B_L_mixed : Binds C.K _ ["_law_cell", "_law_k"] [] := F18.binds (ps := ["_law_cell", "_law_k"]) fun _ _ _ _ _ _ us hl => match us, hl with | [_, _], _ => rfl
  have O_L_movement := o_L_movement (c := C) (k := 1) F22 (FnC.lvl O_L_all (PySem.W.mg_of X G a21) k21 B_L_all (by decide))
  have B_L_movement : Binds C.K _ ["_law_n", "_law_cell"] [] := F22.binds (ps := ["_law_n", "_law_cell"]) fun _ _ _ _ _ _ us hl => match us, hl with | [_, _], _ => rfl
  have O_L_circles := o_L_circles (c := C) (k := 1) F26 (FnC.lvl O_L_led (PySem.W.mg_of X G a19) k19 B_L_led (by decide)) m_range m_divmod m_len m_sorted
  have B_L_circles : Binds C.K _ ["_law_n", "_law_wish"] [] := F26.binds (ps := ["_law_n", "_law_wish"]) fun _ _ _ _ _ _ us hl => match us, hl with | [_, _], _ => rfl
  have O_L_had := o_L_had (c := C) (k := 0) F27 
  have B_L_had : Binds C.K _ ["_law_carpet_here", "_law_spots"] [] := F27.binds (ps := ["_law_carpet_here", "_law_spots"]) fun _ _ _ _ _ _ us hl => match us, hl with | [_, _], _ => rfl
  have O_L_price := o_L_price (c := C) (k := 2) F31 (FnC.lvl O_L_circles (PySem.W.mg_of X G a26) k26 B_L_circles (by decide)) (FnC.lvl O_L_had (PySem.W.mg_of X G a27) k27 B_L_had (by decide)) m_len m_list m_max
  have B_L_price : Binds C.K _ ["_law_carpet_here", "_law_wish"] [] := F31.binds (ps := ["_law_carpet_here", "_law_wish"]) fun _ _ _ _ _ _ us hl => match us, hl with | [_, _], _ => rfl
  have O_L_image := o_L_image (c := C) (k := 1) F28 (FnC.lvl O_L_led (PySem.W.mg_of X G a19) k19 B_L_led (by decide))
  have B_L_image : Binds C.K _ ["_law_ways"] [] := F28.binds (ps := ["_law_ways"]) fun _ _ _ _ _ _ us hl => match us, hl with | [_], _ => rfl
  have O_L_table := o_L_table (c := C) (k := 2) F29 (FnC.lvl O_L_image (PySem.W.mg_of X G a28) k28 B_L_image (by decide))
  have B_L_table : Binds C.K _ [] [] := F29.binds (ps := []) fun _ _ _ _ _ _ us hl => match us, hl with | [], _ => rfl
  have O_L_carpet := o_L_carpet (c := C) (k := 1) F25 (FnC.lvl O_L_mixed (PySem.W.mg_of X G a18) k18 B_L_mixed (by decide)) m_range m_min m_len m_tuple
  have B_L_carpet : Binds C.K _ ["_law_cells", "_law_n", "_law_letters_here", "_law_seed"] [] := F25.binds (ps := ["_law_cells", "_law_n", "_law_letters_here", "_law_seed"]) fun _ _ _ _ _ _ us hl => match us, hl with | [_, _, _, _], _ => rfl
  have O_L_letters := o_L_letters (c := C) (k := 0) F24 m_range
  have B_L_letters : Binds C.K _ ["_law_seed", "_law_many"] [] := F24.binds (ps := ["_law_seed", "_law_many"]) fun _ _ _ _ _ _ us hl => match us, hl with | [_, _], _ => rfl
  have O_L_cell_at := o_L_cell_at (c := C) (k := 0) F16 m_len
  have B_L_cell_at : Binds C.K _ ["_law_script", "_law_k"] [] := F16.binds (ps := ["_law_script", "_law_k"]) fun _ _ _ _ _ _ us hl => match us, hl with | [_, _], _ => rfl
  have O_L_again := o_L_again (c := C) (k := 7) F33 (FnC.lvl O_bettered (PySem.W.mg_of X G a15) k15 B_bettered (by decide)) (FnC.lvl O_L_told_well (PySem.W.mg_of X G a32) k32 B_L_told_well (by decide)) m_len
  have B_L_again : Binds C.K _ ["_law_found", "_law_carpet_here", "_law_most", "_law_table_here"] [] := F33.binds (ps := ["_law_found", "_law_carpet_here", "_law_most", "_law_table_here"]) fun _ _ _ _ _ _ us hl => match us, hl with | [_, _, _, _], _ => rfl
  have O_law := o_law (c := C) (k := 8) F34 (FnC.lvl O_bettered (PySem.W.mg_of X G a15) k15 B_bettered (by decide)) (FnC.lvl O_L_told_well (PySem.W.mg_of X G a32) k32 B_L_told_well (by decide)) (FnC.lvl O_L_mixed (PySem.W.mg_of X G a18) k18 B_L_mixed (by decide)) (FnC.lvl O_L_movement (PySem.W.mg_of X G a22) k22 B_L_movement (by decide)) (FnC.lvl O_L_price (PySem.W.mg_of X G a31) k31 B_L_price (by decide)) (FnC.lvl O_L_size (PySem.W.mg_of X G a30) k30 B_L_size (by decide)) (FnC.lvl O_L_table (PySem.W.mg_of X G a29) k29 B_L_table (by decide)) (FnC.lvl O_L_carpet (PySem.W.mg_of X G a25) k25 B_L_carpet (by decide)) (FnC.lvl O_L_letters (PySem.W.mg_of X G a24) k24 B_L_letters (by decide)) (FnC.lvl O_L_cell_at (PySem.W.mg_of X G a16) k16 B_L_cell_at (by decide)) (FnP.lvl O_L_again (PySem.W.mg_of X G a33) k33 B_L_again (by decide)) m_len m_range
  exact law_ok (c := C) O_law
end My_carpetkin_k94_whole_bettered
open PySem PySem.W PyProof.Rows in
set_option maxHeartbeats 0 in
theorem PySem.Challenge.cw_carpetkin_k94_whole_bettered_holds : PySem.Challenge.rw_carpetkin_k94_whole_bettered.Holds := by
  w_on; o_law; k_head; (case hw => w_witness2)
  k_fill
  refine L2.walk_of (l := PySem.Challenge.rw_carpetkin_k94_whole_bettered) (n := 63) (k := 9) (x := "_law_script") (CX := fun w => L2.CX (PySem.Challenge.rw_carpetkin_k94_whole_bettered).prog w) (sp := fun w => VS.spLaw _) rfl (by decide) rfl ⟨rfl, by decide, by decide⟩ (fun w h Y => PySem.W.kIn_of Y) ?F (fun _ _ a ns hl _ hS => ⟨a, ns, rfl, hS, hl, fun _ => rfl⟩) (fun _ _ _ _ _ h => VS.cx_false h)
  case F =>
    intro w mg fa h KX G hmg
    refine' My_carpetkin_k94_whole_bettered.all_mk KX G hmg ?a0 ?l0 ?c0 ?k0 ?a1 ?l1 ?c1 ?k1 ?a2 ?l2 ?c2 ?k2 ?a3 ?l3 ?c3 ?k3 ?a4 ?l4 ?c4 ?k4 ?a5 ?l5 ?c5 ?k5 ?a6 ?l6 ?c6 ?k6 ?a7 ?l7 ?c7 ?k7 ?a8 ?l8 ?c8 ?k8 ?a9 ?l9 ?c9 ?k9 ?a10 ?l10 ?c10 ?k10 ?a11 ?l11 ?c11 ?k11 ?a12 ?l12 ?c12 ?k12 ?a13 ?l13 ?c13 ?k13 ?a14 ?l14 ?c14 ?k14 ?a15 ?l15 ?c15 ?k15 ?a16 ?l16 ?c16 ?k16 ?a17 ?l17 ?c17 ?k17 ?a18 ?l18 ?c18 ?k18 ?a19 ?l19 ?c19 ?k19 ?a20 ?l20 ?c20 ?k20 ?a21 ?l21 ?c21 ?k21 ?a22 ?l22 ?c22 ?k22 ?a23 ?l23 ?c23 ?k23 ?a24 ?l24 ?c24 ?k24 ?a25 ?l25 ?c25 ?k25 ?a26 ?l26 ?c26 ?k26 ?a27 ?l27 ?c27 ?k27 ?a28 ?l28 ?c28 ?k28 ?a29 ?l29 ?c29 ?k29 ?a30 ?l30 ?c30 ?k30 ?a31 ?l31 ?c31 ?k31 ?a32 ?l32 ?c32 ?k32 ?a33 ?l33 ?c33 ?k33 ?a34 ?l34 ?c34 ?k34 ?z_sorted ?z_range ?z_max ?z_tuple ?z_len ?z_divmod ?z_list ?z_enumerate ?z_sum ?z_int ?z_isinstance ?z_bool ?z_min ?ns_CarpetError ?ns_TooLarge ?bg_CarpetError ?bt_CarpetError ?br_CarpetError ?bf_CarpetError ?lk_TooLarge ?rv_TooLarge ?sa_TooLarge ?no_TooLarge ?ii_TooLarge ?it_TooLarge ?li_TooLarge ?lc_TooLarge ?lq_TooLarge ?kp_TooLarge ?sb_TooLarge ?ty_TooLarge ?q_WAYS ?q_SIGNS ?q_LARGEST ?q_HEADS ?q_HEAD_SIZES
    (case a0 => k_is)
    (case l0 => k_is)
    (case c0 => k_is)
    (case k0 => k_is)
    (case a1 => k_is)
    (case l1 => k_is)
    (case c1 => k_is)
    (case k1 => k_is)
    (case a2 => k_is)
    (case l2 => k_is)
    (case c2 => k_is)
    (case k2 => k_is)
    (case a3 => k_is)
    (case l3 => k_is)
    (case c3 => k_is)
    (case k3 => k_is)
    (case a4 => k_is)
    (case l4 => k_is)
    (case c4 => k_is)
    (case k4 => k_is)
    (case a5 => k_is)
    (case l5 => k_is)
    (case c5 => k_is)
    (case k5 => k_is)
    (case a6 => k_is)
    (case l6 => k_is)
    (case c6 => k_is)
    (case k6 => k_is)
    (case a7 => k_is)
    (case l7 => k_is)
    (case c7 => k_is)
    (case k7 => k_is)
    (case a8 => k_is)
    (case l8 => k_is)
    (case c8 => k_is)
    (case k8 => k_is)
    (case a9 => k_is)
    (case l9 => k_is)
    (case c9 => k_is)
    (case k9 => k_is)
    (case a10 => k_is)
    (case l10 => k_is)
    (case c10 => k_is)
    (case k10 => k_is)
    (case a11 => k_is)
    (case l11 => k_is)
    (case c11 => k_is)
    (case k11 => k_is)
    (case a12 => k_is)
    (case l12 => k_is)
    (case c12 => k_is)
    (case k12 => k_is)
    (case a13 => k_is)
    (case l13 => k_is)
    (case c13 => k_is)
    (case k13 => k_is)
    (case a14 => k_is)
    (case l14 => k_is)
    (case c14 => k_is)
    (case k14 => k_is)
    (case a15 => k_is)
    (case l15 => k_is)
    (case c15 => k_is)
    (case k15 => k_is)
    (case a16 => k_is)
    (case l16 => k_is)
    (case c16 => k_is)
    (case k16 => k_is)
    (case a17 => k_is)
    (case l17 => k_is)
    (case c17 => k_is)
    (case k17 => k_is)
    (case a18 => k_is)
    (case l18 => k_is)
    (case c18 => k_is)
    (case k18 => k_is)
    (case a19 => k_is)
    (case l19 => k_is)
    (case c19 => k_is)
    (case k19 => k_is)
    (case a20 => k_is)
    (case l20 => k_is)
    (case c20 => k_is)
    (case k20 => k_is)
    (case a21 => k_is)
    (case l21 => k_is)
    (case c21 => k_is)
    (case k21 => k_is)
    (case a22 => k_is)
    (case l22 => k_is)
    (case c22 => k_is)
    (case k22 => k_is)
    (case a23 => k_is)
    (case l23 => k_is)
    (case c23 => k_is)
    (case k23 => k_is)
    (case a24 => k_is)
    (case l24 => k_is)
    (case c24 => k_is)
    (case k24 => k_is)
    (case a25 => k_is)
    (case l25 => k_is)
    (case c25 => k_is)
    (case k25 => k_is)
    (case a26 => k_is)
    (case l26 => k_is)
    (case c26 => k_is)
    (case k26 => k_is)
    (case a27 => k_is)
    (case l27 => k_is)
    (case c27 => k_is)
    (case k27 => k_is)
    (case a28 => k_is)
    (case l28 => k_is)
    (case c28 => k_is)
    (case k28 => k_is)
    (case a29 => k_is)
    (case l29 => k_is)
    (case c29 => k_is)
    (case k29 => k_is)
    (case a30 => k_is)
    (case l30 => k_is)
    (case c30 => k_is)
    (case k30 => k_is)
    (case a31 => k_is)
    (case l31 => k_is)
    (case c31 => k_is)
    (case k31 => k_is)
    (case a32 => k_is)
    (case l32 => k_is)
    (case c32 => k_is)
    (case k32 => k_is)
    (case a33 => k_is)
    (case l33 => k_is)
    (case c33 => k_is)
    (case k33 => k_is)
    (case a34 => k_is)
    (case l34 => k_is)
    (case c34 => k_is)
    (case k34 => k_is)
    (case z_sorted => k_is)
    (case z_range => k_is)
    (case z_max => k_is)
    (case z_tuple => k_is)
    (case z_len => k_is)
    (case z_divmod => k_is)
    (case z_list => k_is)
    (case z_enumerate => k_is)
    (case z_sum => k_is)
    (case z_int => k_is)
    (case z_isinstance => k_is)
    (case z_bool => k_is)
    (case z_min => k_is)
    (case ns_CarpetError => k_is)
    (case ns_TooLarge => k_is)
    (case bg_CarpetError => k_is)
    (case bt_CarpetError => k_is)
    (case br_CarpetError => k_is)
    (case bf_CarpetError => k_is)
    (case lk_TooLarge => k_is)
    (case rv_TooLarge => decide)
    (case sa_TooLarge => k_is)
    (case no_TooLarge => k_is)
    (case ii_TooLarge => k_is)
    (case it_TooLarge => k_is)
    (case li_TooLarge => k_is)
    (case lc_TooLarge => k_is)
    (case lq_TooLarge => k_is)
    (case kp_TooLarge => k_is)
    (case sb_TooLarge => k_is)
    (case ty_TooLarge => k_is)
    case q_WAYS =>
      refine' VS.constAt_ref ?yyu ?yyh
      (case yyu => k_is)
      case yyh =>
        refine' VS.rep_ktup ?yyl ?yyz ?yyv ?yyr
        (case yyl => k_is)
        (case yyz => decide)
        (case yyv => exact VS.vals_str (VS.vals_str (VS.vals_str (VS.vals_str (VS.vals_str (VS.vals_str (VS.vals_str (VS.vals_str (VS.vals_nil)))))))))
        (case yyr => exact .cons (.str _) (.cons (.str _) (.cons (.str _) (.cons (.str _) (.cons (.str _) (.cons (.str _) (.cons (.str _) (.cons (.str _) (.nil)))))))))
    case q_SIGNS =>
      refine' VS.constAt_ref ?yyu ?yyh
      (case yyu => k_is)
      case yyh =>
        refine' VS.Rep.dicC ?yyd
        case yyd =>
          refine' VS.repC_ref ?yyl ?yyk ?yyn ?yyh ?yyt
          (case yyl => k_is)
          (case yyk => k_keys)
          (case yyn => k_is)
          case yyh =>
            refine' VS.rep_ktup ?yyl ?yyz ?yyv ?yyr
            (case yyl => k_is)
            (case yyz => decide)
            (case yyv => exact VS.vals_int (VS.vals_int (VS.vals_int (VS.vals_int (VS.vals_nil)))))
            (case yyr => exact .cons (.int _) (.cons (.int _) (.cons (.int _) (.cons (.int _) (.nil)))))
          case yyt =>
            refine' VS.repC_ref ?yyl ?yyk ?yyn ?yyh ?yyt
            (case yyl => k_is)
            (case yyk => k_keys)
            (case yyn => k_is)
            case yyh =>
              refine' VS.rep_ktup ?yyl ?yyz ?yyv ?yyr
              (case yyl => k_is)
              (case yyz => decide)
              (case yyv => exact VS.vals_int (VS.vals_int (VS.vals_int (VS.vals_int (VS.vals_nil)))))
              (case yyr => exact .cons (.int _) (.cons (.int _) (.cons (.int _) (.cons (.int _) (.nil)))))
            case yyt =>
              refine' VS.repC_ref ?yyl ?yyk ?yyn ?yyh ?yyt
              (case yyl => k_is)
              (case yyk => k_keys)
              (case yyn => k_is)
              case yyh =>
                refine' VS.rep_ktup ?yyl ?yyz ?yyv ?yyr
                (case yyl => k_is)
                (case yyz => decide)
                (case yyv => exact VS.vals_int (VS.vals_int (VS.vals_int (VS.vals_int (VS.vals_nil)))))
                (case yyr => exact .cons (.int _) (.cons (.int _) (.cons (.int _) (.cons (.int _) (.nil)))))
              case yyt =>
                refine' VS.repC_ref ?yyl ?yyk ?yyn ?yyh ?yyt
                (case yyl => k_is)
                (case yyk => k_keys)
                (case yyn => k_is)
                case yyh =>
                  refine' VS.rep_ktup ?yyl ?yyz ?yyv ?yyr
                  (case yyl => k_is)
                  (case yyz => decide)
                  (case yyv => exact VS.vals_int (VS.vals_int (VS.vals_int (VS.vals_int (VS.vals_nil)))))
                  (case yyr => exact .cons (.int _) (.cons (.int _) (.cons (.int _) (.cons (.int _) (.nil)))))
                case yyt =>
                  refine' VS.repC_ref ?yyl ?yyk ?yyn ?yyh ?yyt
                  (case yyl => k_is)
                  (case yyk => k_keys)
                  (case yyn => k_is)
                  case yyh =>
                    refine' VS.rep_ktup ?yyl ?yyz ?yyv ?yyr
                    (case yyl => k_is)
                    (case yyz => decide)
                    (case yyv => exact VS.vals_int (VS.vals_int (VS.vals_int (VS.vals_int (VS.vals_nil)))))
                    (case yyr => exact .cons (.int _) (.cons (.int _) (.cons (.int _) (.cons (.int _) (.nil)))))
                  case yyt =>
                    refine' VS.repC_ref ?yyl ?yyk ?yyn ?yyh ?yyt
                    (case yyl => k_is)
                    (case yyk => k_keys)
                    (case yyn => k_is)
                    case yyh =>
                      refine' VS.rep_ktup ?yyl ?yyz ?yyv ?yyr
                      (case yyl => k_is)
                      (case yyz => decide)
                      (case yyv => exact VS.vals_int (VS.vals_int (VS.vals_int (VS.vals_int (VS.vals_nil)))))
                      (case yyr => exact .cons (.int _) (.cons (.int _) (.cons (.int _) (.cons (.int _) (.nil)))))
                    case yyt =>
                      refine' VS.repC_ref ?yyl ?yyk ?yyn ?yyh ?yyt
                      (case yyl => k_is)
                      (case yyk => k_keys)
                      (case yyn => k_is)
                      case yyh =>
                        refine' VS.rep_ktup ?yyl ?yyz ?yyv ?yyr
                        (case yyl => k_is)
                        (case yyz => decide)
                        (case yyv => exact VS.vals_int (VS.vals_int (VS.vals_int (VS.vals_int (VS.vals_nil)))))
                        (case yyr => exact .cons (.int _) (.cons (.int _) (.cons (.int _) (.cons (.int _) (.nil)))))
                      case yyt =>
                        refine' VS.repC_ref ?yyl ?yyk ?yyn ?yyh ?yyt
                        (case yyl => k_is)
                        (case yyk => k_keys)
                        (case yyn => k_is)
                        case yyh =>
                          refine' VS.rep_ktup ?yyl ?yyz ?yyv ?yyr
                          (case yyl => k_is)
                          (case yyz => decide)
                          (case yyv => exact VS.vals_int (VS.vals_int (VS.vals_int (VS.vals_int (VS.vals_nil)))))
                          (case yyr => exact .cons (.int _) (.cons (.int _) (.cons (.int _) (.cons (.int _) (.nil)))))
                        case yyt =>
                          exact VS.RepC.nil
    case q_LARGEST =>
      refine' VS.constAt_int ?yyu
      (case yyu => k_is)
    case q_HEADS =>
      refine' VS.constAt_ref ?yyu ?yyh
      (case yyu => k_is)
      case yyh =>
        refine' VS.rep_ktup ?yyl ?yyz ?yyv ?yyr
        (case yyl => k_is)
        (case yyz => decide)
        (case yyv => exact VS.vals_ref (VS.vals_ref (VS.vals_ref (VS.vals_ref (VS.vals_ref (VS.vals_ref (VS.vals_ref (VS.vals_ref (VS.vals_ref (VS.vals_ref (VS.vals_nil)))))))))))
        case yyr =>
          refine' VS.RepL.cons ?yyh ?yyt
          case yyh =>
            refine' VS.rep_ktup ?yyl ?yyz ?yyv ?yyr
            (case yyl => k_is)
            (case yyz => decide)
            (case yyv => exact VS.vals_nil)
            (case yyr => exact .nil)
          case yyt =>
            refine' VS.RepL.cons ?yyh ?yyt
            case yyh =>
              refine' VS.rep_ktup ?yyl ?yyz ?yyv ?yyr
              (case yyl => k_is)
              (case yyz => decide)
              (case yyv => exact VS.vals_str (VS.vals_nil))
              (case yyr => exact .cons (.str _) (.nil))
            case yyt =>
              refine' VS.RepL.cons ?yyh ?yyt
              case yyh =>
                refine' VS.rep_ktup ?yyl ?yyz ?yyv ?yyr
                (case yyl => k_is)
                (case yyz => decide)
                (case yyv => exact VS.vals_str (VS.vals_nil))
                (case yyr => exact .cons (.str _) (.nil))
              case yyt =>
                refine' VS.RepL.cons ?yyh ?yyt
                case yyh =>
                  refine' VS.rep_ktup ?yyl ?yyz ?yyv ?yyr
                  (case yyl => k_is)
                  (case yyz => decide)
                  (case yyv => exact VS.vals_str (VS.vals_nil))
                  (case yyr => exact .cons (.str _) (.nil))
                case yyt =>
                  refine' VS.RepL.cons ?yyh ?yyt
                  case yyh =>
                    refine' VS.rep_ktup ?yyl ?yyz ?yyv ?yyr
                    (case yyl => k_is)
                    (case yyz => decide)
                    (case yyv => exact VS.vals_str (VS.vals_nil))
                    (case yyr => exact .cons (.str _) (.nil))
                  case yyt =>
                    refine' VS.RepL.cons ?yyh ?yyt
                    case yyh =>
                      refine' VS.rep_ktup ?yyl ?yyz ?yyv ?yyr
                      (case yyl => k_is)
                      (case yyz => decide)
                      (case yyv => exact VS.vals_str (VS.vals_nil))
                      (case yyr => exact .cons (.str _) (.nil))
                    case yyt =>
                      refine' VS.RepL.cons ?yyh ?yyt
                      case yyh =>
                        refine' VS.rep_ktup ?yyl ?yyz ?yyv ?yyr
                        (case yyl => k_is)
                        (case yyz => decide)
                        (case yyv => exact VS.vals_str (VS.vals_nil))
                        (case yyr => exact .cons (.str _) (.nil))
                      case yyt =>
                        refine' VS.RepL.cons ?yyh ?yyt
                        case yyh =>
                          refine' VS.rep_ktup ?yyl ?yyz ?yyv ?yyr
                          (case yyl => k_is)
                          (case yyz => decide)
                          (case yyv => exact VS.vals_str (VS.vals_str (VS.vals_nil)))
                          (case yyr => exact .cons (.str _) (.cons (.str _) (.nil)))
                        case yyt =>
                          refine' VS.RepL.cons ?yyh ?yyt
                          case yyh =>
                            refine' VS.rep_ktup ?yyl ?yyz ?yyv ?yyr
                            (case yyl => k_is)
                            (case yyz => decide)
                            (case yyv => exact VS.vals_str (VS.vals_str (VS.vals_nil)))
                            (case yyr => exact .cons (.str _) (.cons (.str _) (.nil)))
                          case yyt =>
                            refine' VS.RepL.cons ?yyh ?yyt
                            case yyh =>
                              refine' VS.rep_ktup ?yyl ?yyz ?yyv ?yyr
                              (case yyl => k_is)
                              (case yyz => decide)
                              (case yyv => exact VS.vals_str (VS.vals_str (VS.vals_nil)))
                              (case yyr => exact .cons (.str _) (.cons (.str _) (.nil)))
                            case yyt =>
                              exact VS.RepL.nil
    case q_HEAD_SIZES =>
      refine' VS.constAt_ref ?yyu ?yyh
      (case yyu => k_is)
      case yyh =>
        refine' VS.rep_ktup ?yyl ?yyz ?yyv ?yyr
        (case yyl => k_is)
        (case yyz => decide)
        (case yyv => exact VS.vals_int (VS.vals_int (VS.vals_int (VS.vals_int (VS.vals_int (VS.vals_int (VS.vals_int (VS.vals_int (VS.vals_int (VS.vals_int (VS.vals_nil)))))))))))
        (case yyr => exact .cons (.int _) (.cons (.int _) (.cons (.int _) (.cons (.int _) (.cons (.int _) (.cons (.int _) (.cons (.int _) (.cons (.int _) (.cons (.int _) (.cons (.int _) (.nil)))))))))))
