import PyProof.Rows.All
import Wide.All
import OpenK.AllK
import Wide.FinOn
import HandS.ForMost
import HandS.Wide
import KE.KDictKeyed
import HandS.TupAny
import HandS.TupMul
import HandS.Style
import HandS.Deep
import HandS.IsInst
import KE.SortData
import HandS.Zip
import KE.GoesEnum
import HandS.TupSets
import HandS.SetFor
import KE.DataMinMax
import KE.KDictSum
import PyProof.P3Eq
import PySem.Challenge.RW_realpauses_k02_whole_beats_with_fraction
set_option Elab.async false
set_option linter.all false
set_option maxRecDepth 100000
section
set_option maxHeartbeats 4000000
/-! values by content: what stands at a slot, told without addresses; which objects a slot owns alone -/
namespace MV
open PySem PySem.Spec PyProof.Rows L2

/-- a value by content. m: this object is owned (may still be changed); t: a dict whose keys are tuples -/
inductive Val where
  | non
  | bl (b : Bool)
  | int (i : Int)
  | str (z : Str)
  | tup (xs : List Val)
  | lst (m : Bool) (xs : List Val)
  | dct (m t : Bool) (ks vs : List Val)
  /-- the script: a list of ints that is looked at alone -/
  | scr (ns : List Int)

abbrev Sl := List (Option Val)

mutual
def Val.pure : Val → Bool
  | .non => true
  | .bl _ => true
  | .int _ => true
  | .str _ => true
  | .tup xs => pureL xs
  | .lst m xs => !m && pureL xs
  | .dct m _ _ vs => !m && pureL vs
  | .scr _ => true
def pureL : List Val → Bool
  | [] => true
  | x :: r => x.pure && pureL r
end
mutual
def Val.frz : Val → Val
  | .non => .non
  | .bl b => .bl b
  | .int i => .int i
  | .str z => .str z
  | .tup xs => .tup (frzL xs)
  | .lst _ xs => .lst false (frzL xs)
  | .dct _ t ks vs => .dct false t ks (frzL vs)
  | .scr ns => .scr ns
def frzL : List Val → List Val
  | [] => []
  | x :: r => x.frz :: frzL r
end
mutual
def Val.own : Val → Bool
  | .non => true
  | .bl _ => true
  | .int _ => true
  | .str _ => true
  | .tup xs => ownL xs
  | .lst m xs => m && ownL xs
  | .dct m _ ks vs => m && ownL ks && ownL vs
  | .scr _ => false
def ownL : List Val → Bool
  | [] => true
  | x :: r => x.own && ownL r
end
mutual
def Val.toD : Val → PyData
  | .non => .none
  | .bl b => .bool b
  | .int i => .int i
  | .str z => .str z
  | .tup xs => .tuple (toDL xs)
  | .lst _ xs => .list (toDL xs)
  | .dct _ _ _ _ => .dict []
  | .scr _ => .dict []
def toDL : List Val → List PyData
  | [] => []
  | x :: r => x.toD :: toDL r
end
mutual
def Val.nkey : Val → Option NestedKey
  | .non => some .none
  | .bl b => some (.num (if b then 1 else 0))
  | .int i => some (.num i)
  | .str z => some (.text z)
  | .tup xs => (nkeyL xs).map .tup
  | .lst _ _ => none
  | .dct _ _ _ _ => none
  | .scr _ => none
def nkeyL : List Val → Option (List NestedKey)
  | [] => some []
  | x :: r => match x.nkey, nkeyL r with
    | some k, some ks => some (k :: ks)
    | _, _ => none
end
def keyVal : Key → Val
  | .inl i => .int i
  | .inr z => .str z

mutual
theorem frz_pure : ∀ x : Val, x.frz.pure = true
  | .non => rfl
  | .bl _ => rfl
  | .int _ => rfl
  | .str _ => rfl
  | .tup xs => by simp only [Val.frz, Val.pure]; exact frzL_pure xs
  | .lst _ xs => by simp only [Val.frz, Val.pure, frzL_pure xs]; rfl
  | .dct _ _ _ vs => by simp only [Val.frz, Val.pure, frzL_pure vs]; rfl
  | .scr _ => rfl
theorem frzL_pure : ∀ xs : List Val, pureL (frzL xs) = true
  | [] => rfl
  | x :: r => by simp only [frzL, pureL, frz_pure x, frzL_pure r]; rfl
end
mutual
theorem frz_of_pure : ∀ x : Val, x.pure = true → x.frz = x
  | .non, _ => rfl
  | .bl _, _ => rfl
  | .int _, _ => rfl
  | .str _, _ => rfl
  | .tup xs, h => by simp only [Val.pure] at h; simp only [Val.frz, frzL_of_pure xs h]
  | .lst m xs, h => by
    simp only [Val.pure, Bool.and_eq_true, Bool.not_eq_true'] at h
    simp only [Val.frz, frzL_of_pure xs h.2, h.1]
  | .dct m _ _ vs, h => by
    simp only [Val.pure, Bool.and_eq_true, Bool.not_eq_true'] at h
    simp only [Val.frz, frzL_of_pure vs h.2, h.1]
  | .scr _, _ => rfl
theorem frzL_of_pure : ∀ xs : List Val, pureL xs = true → frzL xs = xs
  | [], _ => rfl
  | x :: r, h => by
    simp only [pureL, Bool.and_eq_true] at h
    simp only [frzL, frz_of_pure x h.1, frzL_of_pure r h.2]
end
theorem frzL_map (xs : List Val) : frzL xs = xs.map Val.frz := by
  induction xs with
  | nil => rfl
  | cons x r ih => simp only [frzL, List.map_cons, ih]
theorem pureL_all (xs : List Val) : pureL xs = xs.all Val.pure := by
  induction xs with
  | nil => rfl
  | cons x r ih => simp only [pureL, List.all_cons, ih]
theorem toDL_map (xs : List Val) : toDL xs = xs.map Val.toD := by
  induction xs with
  | nil => rfl
  | cons x r ih => simp only [toDL, List.map_cons, ih]

/-! ### the relation -/
/-- a dict with tuple keys, by what its one object holds -/
def DctT (P : Program) (w : World) (a : Addr) (es : List (NestedKey × V × V)) : HO :=
  .ext fun h => (a == sysModules) = false ∧ es.length ≤ sizeLine ∧ ∃ o ds ep, h.get? a = some o ∧ o.ExactDict ∧ o.data = .dict ds ep ∧
    Paired (fun (e : NestedKey × V × V) (d : DictEntry) => d.hash = (nestedKind P w).hash e.1 ∧ RelV e.2.1 d.key ∧ RelV e.2.2 d.val) es ds.toList

def KTup (K : PySem.W.Frag) (a : Addr) (vs : List V) : Prop :=
  ∃ (o : Obj) (its : Array Value) (n : Nat), K.lookup a = some o ∧ o.cls = .type "tuple" ∧ o.data = .seq its n ∧ its.size ≤ sizeLine ∧ Vals vs its.toList
def TupAt (K : PySem.W.Frag) (F : Addr → Prop) (H : Hp) (a : Addr) (vs : List V) : Prop := (F a ∧ H a = some (.tup vs)) ∨ KTup K a vs
theorem TupAt.sq {K F H a vs} (h : TupAt K F H a vs) : SqT K H a vs := by
  rcases h with ⟨_, h⟩ | h
  · exact SqT.of h
  · exact .inr h
/-- u stands at a; owned: a is told in the list L, in front of what is owned below it -/
def At (F : Addr → Prop) (H : Hp) (m : Bool) (a : Addr) (u : HO) (L0 L : List Addr) : Prop :=
  if m = true then H a = some u ∧ L = a :: L0 else F a ∧ H a = some u ∧ L0 = [] ∧ L = []
/-- the same of a dict, which a walk may lock -/
def AtD (F : Addr → Prop) (H : Hp) (m : Bool) (a : Addr) (u : HO) (L0 L : List Addr) : Prop :=
  if m = true then H a = some u ∧ L = a :: L0 else F a ∧ Rd H a u ∧ L0 = [] ∧ L = []
def KLst (K : PySem.W.Frag) (a : Addr) (xs : List V) : Prop :=
  ∃ (o : Obj) (its : Array Value) (n : Nat), K.lookup a = some o ∧ o.cls = .type "list" ∧ o.dict = none ∧ o.data = .seq its n ∧ its.size ≤ sizeLine ∧ Vals xs its.toList
def ScrAt (K : PySem.W.Frag) (F : Addr → Prop) (H : Hp) (a : Addr) (xs : List V) : Prop := (F a ∧ Rd H a (.lst xs)) ∨ KLst K a xs
theorem ScrAt.sq {K F H a xs} (h : ScrAt K F H a xs) : SqL K H a xs := by
  rcases h with ⟨_, h⟩ | h
  · exact .inl h
  · exact .inr h

section
variable (P : Program) (w : World) (K : PySem.W.Frag) (F : Addr → Prop) (H : Hp)
mutual
inductive VR : V → Val → List Addr → Prop
  | non : VR .non .non []
  | bl (b : Bool) : VR (.bl b) (.bl b) []
  | int (i : Int) : VR (.int i) (.int i) []
  | str (z : Str) : VR (.str z) (.str z) []
  | tup {a : Addr} {vs : List V} {xs : List Val} {L : List Addr} : TupAt K F H a vs → VRs vs xs L → VR (.ref a) (.tup xs) L
  | lst {a : Addr} {m : Bool} {vs : List V} {xs : List Val} {L0 L : List Addr} : At F H m a (.lst vs) L0 L → VRs vs xs L0 → VR (.ref a) (.lst m xs) L
  | scr {a : Addr} {ns : List Int} : ScrAt K F H a (ns.map V.int) → VR (.ref a) (.scr ns) []
  | dK {a : Addr} {m : Bool} {kv : List (Key × V)} {ks ys : List Val} {L0 L : List Addr} : AtD F H m a (.dK kv) L0 L → ks = kv.map (fun p => keyVal p.1) → VRs (kv.map (·.2)) ys L0 → VR (.ref a) (.dct m false ks ys) L
  | dT {a : Addr} {m : Bool} {es : List (NestedKey × V × V)} {ks ys : List Val} {L0 L : List Addr} : AtD F H m a (DctT P w a es) L0 L → (es.map (·.1)).Nodup → ks.map Val.nkey = es.map (fun e => some e.1) → VRs (es.map (·.2.1)) ks [] → VRs (es.map (·.2.2)) ys L0 →
      VR (.ref a) (.dct m true ks ys) L
inductive VRs : List V → List Val → List Addr → Prop
  | nil : VRs [] [] []
  | cons {v : V} {x : Val} {L : List Addr} {vs : List V} {xs : List Val} {L' : List Addr} : VR v x L → VRs vs xs L' → VRs (v :: vs) (x :: xs) (L ++ L')
end
end

section
variable {P : Program} {w : World} {K : PySem.W.Frag} {F F' : Addr → Prop} {H H' : Hp}

theorem VRs.length : ∀ {vs : List V} {xs : List Val} {L : List Addr}, VRs P w K F H vs xs L → vs.length = xs.length
  | _, _, _, .nil => rfl
  | _, _, _, .cons _ t => congrArg (· + 1) (VRs.length t)

theorem TupAt.mono {a : Addr} {vs : List V} (fs : ∀ a, F a → F' a) (fh : ∀ a, F a → H' a = H a) (h : TupAt K F H a vs) : TupAt K F' H' a vs := by
  rcases h with ⟨h1, h2⟩ | h
  · exact .inl ⟨fs a h1, (fh a h1).trans h2⟩
  · exact .inr h
theorem Rd.eqH {a : Addr} {u : HO} (e : H' a = H a) (h : Rd H a u) : Rd H' a u := by
  rcases h with h | ⟨o, h⟩
  · exact .inl (e.trans h)
  · exact .inr ⟨o, e.trans h⟩
theorem At.mono {m : Bool} {a : Addr} {u : HO} {L0 L : List Addr} (fs : ∀ a, F a → F' a) (fh : ∀ a, F a → H' a = H a) (h : At F H m a u L0 L) (hl : ∀ a ∈ L, H' a = H a) : At F' H' m a u L0 L ∧ ∀ b ∈ L0, H' b = H b := by
  unfold At at h ⊢
  cases m with
  | true =>
    simp only [if_true] at h ⊢
    obtain ⟨h1, rfl⟩ := h
    exact ⟨⟨(hl a List.mem_cons_self).trans h1, rfl⟩, fun b hb => hl b (List.mem_cons_of_mem _ hb)⟩
  | false =>
    simp only [Bool.false_eq_true, if_false] at h ⊢
    obtain ⟨h1, h2, rfl, rfl⟩ := h
    exact ⟨⟨fs a h1, (fh a h1).trans h2, rfl, rfl⟩, fun b hb => nomatch hb⟩
theorem AtD.mono {m : Bool} {a : Addr} {u : HO} {L0 L : List Addr} (fs : ∀ a, F a → F' a) (fh : ∀ a, F a → H' a = H a) (h : AtD F H m a u L0 L) (hl : ∀ a ∈ L, H' a = H a) : AtD F' H' m a u L0 L ∧ ∀ b ∈ L0, H' b = H b := by
  unfold AtD at h ⊢
  cases m with
  | true =>
    simp only [if_true] at h ⊢
    obtain ⟨h1, rfl⟩ := h
    exact ⟨⟨(hl a List.mem_cons_self).trans h1, rfl⟩, fun b hb => hl b (List.mem_cons_of_mem _ hb)⟩
  | false =>
    simp only [Bool.false_eq_true, if_false] at h ⊢
    obtain ⟨h1, h2, rfl, rfl⟩ := h
    exact ⟨⟨fs a h1, Rd.eqH (fh a h1) h2, rfl, rfl⟩, fun b hb => nomatch hb⟩
theorem ScrAt.mono {a : Addr} {xs : List V} (fs : ∀ a, F a → F' a) (fh : ∀ a, F a → H' a = H a) (h : ScrAt K F H a xs) : ScrAt K F' H' a xs := by
  rcases h with ⟨h1, h2⟩ | h
  · exact .inl ⟨fs a h1, Rd.eqH (fh a h1) h2⟩
  · exact .inr h
mutual
theorem VR.mono (fs : ∀ a, F a → F' a) (fh : ∀ a, F a → H' a = H a) : ∀ {v : V} {x : Val} {L : List Addr}, VR P w K F H v x L → (∀ a ∈ L, H' a = H a) → VR P w K F' H' v x L
  | _, _, _, .non, _ => .non
  | _, _, _, .bl b, _ => .bl b
  | _, _, _, .int i, _ => .int i
  | _, _, _, .str z, _ => .str z
  | _, _, _, .tup h t, hl => .tup (h.mono fs fh) (VRs.mono fs fh t hl)
  | _, _, _, .lst h t, hl => .lst (h.mono fs fh hl).1 (VRs.mono fs fh t (h.mono fs fh hl).2)
  | _, _, _, .scr h, hl => .scr (h.mono fs fh)
  | _, _, _, .dK h e t, hl => .dK (h.mono fs fh hl).1 e (VRs.mono fs fh t (h.mono fs fh hl).2)
  | _, _, _, .dT h n e k t, hl => .dT (h.mono fs fh hl).1 n e (VRs.mono fs fh k (fun _ z => nomatch z)) (VRs.mono fs fh t (h.mono fs fh hl).2)
theorem VRs.mono (fs : ∀ a, F a → F' a) (fh : ∀ a, F a → H' a = H a) : ∀ {vs : List V} {xs : List Val} {L : List Addr}, VRs P w K F H vs xs L → (∀ a ∈ L, H' a = H a) → VRs P w K F' H' vs xs L
  | _, _, _, .nil, _ => .nil
  | _, _, _, .cons h t, hl => .cons (VR.mono fs fh h fun a ha => hl a (List.mem_append_left _ ha)) (VRs.mono fs fh t fun a ha => hl a (List.mem_append_right _ ha))
end

theorem At.frz {m : Bool} {a : Addr} {u : HO} {L0 L : List Addr} (fs : ∀ a, F a → F' a) (h : At F H m a u L0 L) (hl : ∀ a ∈ L, F' a) : At F' H false a u [] [] ∧ ∀ b ∈ L0, F' b := by
  unfold At at h ⊢
  simp only [Bool.false_eq_true, if_false]
  cases m with
  | true =>
    simp only [if_true] at h
    obtain ⟨h1, rfl⟩ := h
    exact ⟨⟨hl a List.mem_cons_self, h1, trivial, trivial⟩, fun b hb => hl b (List.mem_cons_of_mem _ hb)⟩
  | false =>
    simp only [Bool.false_eq_true, if_false] at h
    obtain ⟨h1, h2, rfl, rfl⟩ := h
    exact ⟨⟨fs a h1, h2, trivial, trivial⟩, fun b hb => nomatch hb⟩
theorem AtD.frz {m : Bool} {a : Addr} {u : HO} {L0 L : List Addr} (fs : ∀ a, F a → F' a) (h : AtD F H m a u L0 L) (hl : ∀ a ∈ L, F' a) : AtD F' H false a u [] [] ∧ ∀ b ∈ L0, F' b := by
  unfold AtD at h ⊢
  simp only [Bool.false_eq_true, if_false]
  cases m with
  | true =>
    simp only [if_true] at h
    obtain ⟨h1, rfl⟩ := h
    exact ⟨⟨hl a List.mem_cons_self, .inl h1, trivial, trivial⟩, fun b hb => hl b (List.mem_cons_of_mem _ hb)⟩
  | false =>
    simp only [Bool.false_eq_true, if_false] at h
    obtain ⟨h1, h2, rfl, rfl⟩ := h
    exact ⟨⟨fs a h1, h2, trivial, trivial⟩, fun b hb => nomatch hb⟩
mutual
theorem VR.frz (fs : ∀ a, F a → F' a) : ∀ {v : V} {x : Val} {L : List Addr}, VR P w K F H v x L → (∀ a ∈ L, F' a) → VR P w K F' H v x.frz []
  | _, _, _, .non, _ => .non
  | _, _, _, .bl b, _ => .bl b
  | _, _, _, .int i, _ => .int i
  | _, _, _, .str z, _ => .str z
  | _, _, _, .tup h t, hl => by simp only [Val.frz]; exact .tup (h.mono fs fun _ _ => rfl) (VRs.frz fs t hl)
  | _, _, _, .lst h t, hl => by simp only [Val.frz]; exact .lst (h.frz fs hl).1 (VRs.frz fs t (h.frz fs hl).2)
  | _, _, _, .scr h, hl => by simp only [Val.frz]; exact .scr (h.mono fs fun _ _ => rfl)
  | _, _, _, .dK h e t, hl => by simp only [Val.frz]; exact .dK (h.frz fs hl).1 e (VRs.frz fs t (h.frz fs hl).2)
  | _, _, _, .dT h n e k t, hl => by simp only [Val.frz]; exact .dT (h.frz fs hl).1 n e (VRs.mono fs (fun _ _ => rfl) k (fun _ z => nomatch z)) (VRs.frz fs t (h.frz fs hl).2)
theorem VRs.frz (fs : ∀ a, F a → F' a) : ∀ {vs : List V} {xs : List Val} {L : List Addr}, VRs P w K F H vs xs L → (∀ a ∈ L, F' a) → VRs P w K F' H vs (frzL xs) []
  | _, _, _, .nil, _ => .nil
  | _, _, _, .cons h t, hl => by
    simp only [frzL]
    exact .cons (VR.frz fs h fun a ha => hl a (List.mem_append_left _ ha)) (VRs.frz fs t fun a ha => hl a (List.mem_append_right _ ha))
end
mutual
theorem VR.pure_nil : ∀ {v : V} {x : Val} {L : List Addr}, VR P w K F H v x L → x.pure = true → L = []
  | _, _, _, .non, _ => rfl
  | _, _, _, .bl b, _ => rfl
  | _, _, _, .int i, _ => rfl
  | _, _, _, .str z, _ => rfl
  | _, _, _, .tup h t, p => VRs.pure_nil t (by simpa [Val.pure] using p)
  | _, _, _, .lst (m := m) h t, p => by
    cases m with
    | true => simp [Val.pure] at p
    | false =>
      simp only [At, Bool.false_eq_true, if_false] at h
      exact h.2.2.2
  | _, _, _, .scr h, p => rfl
  | _, _, _, .dK (m := m) h e t, p => by
    cases m with
    | true => simp [Val.pure] at p
    | false =>
      simp only [AtD, Bool.false_eq_true, if_false] at h
      exact h.2.2.2
  | _, _, _, .dT (m := m) h n e k t, p => by
    cases m with
    | true => simp [Val.pure] at p
    | false =>
      simp only [AtD, Bool.false_eq_true, if_false] at h
      exact h.2.2.2
theorem VRs.pure_nil : ∀ {vs : List V} {xs : List Val} {L : List Addr}, VRs P w K F H vs xs L → pureL xs = true → L = []
  | _, _, _, .nil, _ => rfl
  | _, _, _, .cons h t, p => by
    simp only [pureL, Bool.and_eq_true] at p
    rw [VR.pure_nil h p.1, VRs.pure_nil t p.2, List.append_nil]
end
theorem At.lt {m : Bool} {a : Addr} {u : HO} {L0 L : List Addr} (h : At F H m a u L0 L) (h0 : ∀ b ∈ L0, ∃ o, H b = some o ∧ ∀ vs, o ≠ .tup vs) (hu : ∀ vs, u ≠ .tup vs) : ∀ b ∈ L, ∃ o, H b = some o ∧ ∀ vs, o ≠ .tup vs := by
  unfold At at h
  cases m with
  | true =>
    simp only [if_true] at h
    obtain ⟨h1, rfl⟩ := h
    intro b hb
    rcases List.mem_cons.mp hb with rfl | hb
    · exact ⟨u, h1, hu⟩
    · exact h0 b hb
  | false =>
    simp only [Bool.false_eq_true, if_false] at h
    obtain ⟨_, _, _, rfl⟩ := h
    exact fun b hb => nomatch hb
theorem AtD.lt {m : Bool} {a : Addr} {u : HO} {L0 L : List Addr} (h : AtD F H m a u L0 L) (h0 : ∀ b ∈ L0, ∃ o, H b = some o ∧ ∀ vs, o ≠ .tup vs) (hu : ∀ vs, u ≠ .tup vs) : ∀ b ∈ L, ∃ o, H b = some o ∧ ∀ vs, o ≠ .tup vs := by
  unfold AtD at h
  cases m with
  | true =>
    simp only [if_true] at h
    obtain ⟨h1, rfl⟩ := h
    intro b hb
    rcases List.mem_cons.mp hb with rfl | hb
    · exact ⟨u, h1, hu⟩
    · exact h0 b hb
  | false =>
    simp only [Bool.false_eq_true, if_false] at h
    obtain ⟨_, _, _, rfl⟩ := h
    exact fun b hb => nomatch hb
mutual
theorem VR.lt : ∀ {v : V} {x : Val} {L : List Addr}, VR P w K F H v x L → ∀ b ∈ L, ∃ o, H b = some o ∧ ∀ vs, o ≠ .tup vs
  | _, _, _, .non => fun _ z => nomatch z
  | _, _, _, .bl b => fun _ z => nomatch z
  | _, _, _, .int i => fun _ z => nomatch z
  | _, _, _, .str z => fun _ z => nomatch z
  | _, _, _, .tup h t => VRs.lt t
  | _, _, _, .lst h t => h.lt (VRs.lt t) (fun _ e => nomatch e)
  | _, _, _, .scr h => fun _ z => nomatch z
  | _, _, _, .dK h e t => h.lt (VRs.lt t) (fun _ e => nomatch e)
  | _, _, _, .dT h n e k t => h.lt (VRs.lt t) (fun _ e => nomatch e)
theorem VRs.lt : ∀ {vs : List V} {xs : List Val} {L : List Addr}, VRs P w K F H vs xs L → ∀ b ∈ L, ∃ o, H b = some o ∧ ∀ vs, o ≠ .tup vs
  | _, _, _, .nil => fun _ z => nomatch z
  | _, _, _, .cons h t => fun b hb => (List.mem_append.mp hb).elim (VR.lt h b) (VRs.lt t b)
end
theorem At.strip {m : Bool} {a : Addr} {u : HO} {L0 L : List Addr} (h : At F H m a u L0 L) (hm : m = true) : At F' H m a u L0 L := by
  subst hm
  simpa only [At, if_true] using h
theorem AtD.strip {m : Bool} {a : Addr} {u : HO} {L0 L : List Addr} (h : AtD F H m a u L0 L) (hm : m = true) : AtD F' H m a u L0 L := by
  subst hm
  simpa only [AtD, if_true] using h
mutual
theorem VR.strip (ft : ∀ a vs, F a → H a = some (.tup vs) → F' a) : ∀ {v : V} {x : Val} {L : List Addr}, VR P w K F H v x L → x.own = true → VR P w K F' H v x L
  | _, _, _, .non, _ => .non
  | _, _, _, .bl b, _ => .bl b
  | _, _, _, .int i, _ => .int i
  | _, _, _, .str z, _ => .str z
  | _, _, _, .tup h t, o => by
    refine .tup ?_ (VRs.strip ft t (by simpa [Val.own] using o))
    rcases h with ⟨h1, h2⟩ | h
    · exact .inl ⟨ft _ _ h1 h2, h2⟩
    · exact .inr h
  | _, _, _, .lst h t, o => by
    simp only [Val.own, Bool.and_eq_true] at o
    exact .lst (h.strip o.1) (VRs.strip ft t o.2)
  | _, _, _, .scr h, o => by simp [Val.own] at o
  | _, _, _, .dK h e t, o => by
    simp only [Val.own, Bool.and_eq_true] at o
    exact .dK (h.strip o.1.1) e (VRs.strip ft t o.2)
  | _, _, _, .dT h n e k t, o => by
    simp only [Val.own, Bool.and_eq_true] at o
    exact .dT (h.strip o.1.1) n e (VRs.strip ft k o.1.2) (VRs.strip ft t o.2)
theorem VRs.strip (ft : ∀ a vs, F a → H a = some (.tup vs) → F' a) : ∀ {vs : List V} {xs : List Val} {L : List Addr}, VRs P w K F H vs xs L → ownL xs = true → VRs P w K F' H vs xs L
  | _, _, _, .nil, _ => .nil
  | _, _, _, .cons h t, o => by
    simp only [ownL, Bool.and_eq_true] at o
    exact .cons (VR.strip ft h o.1) (VRs.strip ft t o.2)
end

theorem VRs.get : ∀ {vs : List V} {xs : List Val} {L : List Addr} {i : Nat} {x : Val}, VRs P w K F H vs xs L → xs[i]? = some x → ∃ v L1, vs[i]? = some v ∧ VR P w K F H v x L1 ∧ L1.Sublist L
  | _, _, _, _, _, .nil, e => by simp at e
  | _, _, _, 0, _, .cons (L := L) (L' := L') h t, e => by
    simp at e; subst e
    exact ⟨_, _, rfl, h, List.sublist_append_left _ _⟩
  | _, _, _, i + 1, x, .cons (L := L) (L' := L') h t, e => by
    obtain ⟨v, L1, h1, h2, h3⟩ := VRs.get (i := i) (x := x) t (by simpa using e)
    exact ⟨v, L1, by simpa using h1, h2, h3.trans (List.sublist_append_right _ _)⟩
theorem VRs.append : ∀ {vs : List V} {xs : List Val} {L : List Addr} {ws : List V} {ys : List Val} {M : List Addr}, VRs P w K F H vs xs L → VRs P w K F H ws ys M → VRs P w K F H (vs ++ ws) (xs ++ ys) (L ++ M)
  | _, _, _, _, _, _, .nil, s => s
  | _, _, _, _, _, _, .cons h t, s => by rw [List.append_assoc]; exact .cons h (VRs.append t s)
/-- of pure values: no list L to carry -/
theorem VRs.pureL {vs : List V} {xs : List Val} {L : List Addr} (h : VRs P w K F H vs xs L) (p : pureL xs = true) : VRs P w K F H vs xs [] := by
  have e := h.pure_nil p
  subst e; exact h
theorem VR.pureV {v : V} {x : Val} {L : List Addr} (h : VR P w K F H v x L) (p : x.pure = true) : VR P w K F H v x [] := by
  have e := h.pure_nil p
  subst e; exact h
end
end MV
end

section
set_option maxHeartbeats 4000000
/-! slots by content, what a step of the program may change, the judgements over the layer's -/
namespace MV
open PySem PySem.Spec PyProof.Rows L2

abbrev S2 := L2.St
/-- L is a part of M -/
def Sub (L M : List Addr) : Prop := ∃ R, M.Perm (L ++ R)
theorem Sub.refl (L : List Addr) : Sub L L := ⟨[], by rw [List.append_nil]⟩
theorem Sub.of_perm {L M : List Addr} (h : L.Perm M) : Sub L M := ⟨[], by rw [List.append_nil]; exact h.symm⟩
theorem Sub.trans {L M N : List Addr} (a : Sub L M) (b : Sub M N) : Sub L N := by
  obtain ⟨R, h⟩ := a
  obtain ⟨R', h'⟩ := b
  exact ⟨R ++ R', h'.trans (by rw [← List.append_assoc]; exact h.append_right R')⟩
theorem Sub.left (L M : List Addr) : Sub L (L ++ M) := ⟨M, List.Perm.refl _⟩
theorem Sub.right (L M : List Addr) : Sub M (L ++ M) := ⟨L, List.perm_append_comm⟩
theorem Sub.mem {L M : List Addr} (h : Sub L M) {a : Addr} (ha : a ∈ L) : a ∈ M := by
  obtain ⟨R, h⟩ := h
  exact h.mem_iff.mpr (List.mem_append_left _ ha)
theorem Sub.nodup {L M : List Addr} (h : Sub L M) (n : M.Nodup) : L.Nodup := by
  obtain ⟨R, h⟩ := h
  exact (List.nodup_append.mp (h.nodup_iff.mp n)).1
theorem Sub.app {L M L' M' : List Addr} (a : Sub L M) (b : Sub L' M') : Sub (L ++ L') (M ++ M') := by
  obtain ⟨R, h⟩ := a
  obtain ⟨R', h'⟩ := b
  refine ⟨R ++ R', (h.append h').trans ?_⟩
  rw [List.append_assoc, List.append_assoc]
  refine List.Perm.append_left _ ?_
  rw [← List.append_assoc, ← List.append_assoc]
  exact List.perm_append_comm.append_right _
theorem Sub.of_sublist {L M : List Addr} (h : L.Sublist M) : Sub L M := by
  induction h with
  | slnil => exact Sub.refl _
  | cons a _ ih =>
    obtain ⟨R, h⟩ := ih
    exact ⟨a :: R, (h.cons a).trans (List.perm_middle.symm)⟩
  | cons_cons a _ ih =>
    obtain ⟨R, h⟩ := ih
    exact ⟨R, h.cons a⟩
theorem Sub.nil (M : List Addr) : Sub [] M := ⟨M, List.Perm.refl _⟩
theorem Sub.swap (L M : List Addr) : Sub (L ++ M) (M ++ L) := Sub.of_perm List.perm_append_comm

structure Good (F : Addr → Prop) (H : Hp) (L : List Addr) : Prop where
  nd : L.Nodup
  nf : ∀ a ∈ L, ¬ F a
  ft : ∀ a, F a → H a ≠ none
  lt : ∀ a ∈ L, H a ≠ none
structure Step (q : Bool) (F : Addr → Prop) (H : Hp) (L : List Addr) (F' : Addr → Prop) (H' : Hp) (M : List Addr) : Prop where
  good : Good F' H' M
  fs : ∀ a, F a → F' a
  kp : ∀ a, H a ≠ none → a ∉ L → H' a = H a
  tr : ∀ a, H a ≠ none → H' a ≠ none
  mem : ∀ a ∈ M, a ∈ L ∨ H a = none
  fm : ∀ a, F' a → F a ∨ a ∈ L ∨ H a = none
  qk : q = true → ∀ a ∈ L, H a ≠ none → H' a = H a
section
variable {F F' F1 F2 : Addr → Prop} {H H' H1 H2 : Hp} {L L' L1 L2 M M' R : List Addr} {q q1 q2 : Bool}
theorem Good.sub (g : Good F H M) (s : Sub L M) : Good F H L := ⟨s.nodup g.nd, fun a ha => g.nf a (s.mem ha), g.ft, fun a ha => g.lt a (s.mem ha)⟩
theorem Step.sub (g : Step q F H L F' H' M) (s : Sub M' M) : Step q F H L F' H' M' := ⟨g.good.sub s, g.fs, g.kp, g.tr, fun a ha => g.mem a (s.mem ha), g.fm, g.qk⟩
theorem Step.weak (g : Step q F H L F' H' M) : Step false F H L F' H' M := ⟨g.good, g.fs, g.kp, g.tr, g.mem, g.fm, fun z => nomatch z⟩
theorem Step.weak' (g : Step true F H L F' H' M) : Step q F H L F' H' M := ⟨g.good, g.fs, g.kp, g.tr, g.mem, g.fm, fun _ => g.qk rfl⟩
theorem Step.refl (g : Good F H L) : Step true F H L F H L := ⟨g, fun _ z => z, fun _ _ _ => rfl, fun _ z => z, fun _ z => .inl z, fun _ z => .inl z, fun _ _ _ _ => rfl⟩
/-- nothing tracked below L is changed at all -/
theorem Step.keep (s : Step true F H L F' H' M) : ∀ a, H a ≠ none → H' a = H a := fun a h => by
  by_cases c : a ∈ L
  · exact s.qk rfl a c h
  · exact s.kp a h c
theorem Step.trans (a : Step q1 F H L F1 H1 L1) (b : Step q2 F1 H1 L1 F2 H2 L2) : Step (q1 && q2) F H L F2 H2 L2 := by
  have un : ∀ x, H1 x = none → H x = none := fun x h => Classical.byContradiction fun c => a.tr x c h
  have kp2 : ∀ x, H x ≠ none → x ∉ L → H2 x = H x := fun x h1 h2 => by
    have hx : x ∉ L1 := fun z => (a.mem x z).elim h2 h1
    exact (b.kp x (a.tr x h1) hx).trans (a.kp x h1 h2)
  refine ⟨b.good, fun x h => b.fs x (a.fs x h), kp2, fun x h => b.tr x (a.tr x h), fun x h => ?_, fun x h => ?_, fun hq x h1 h2 => ?_⟩
  · rcases b.mem x h with z | z
    · exact a.mem x z
    · exact .inr (un x z)
  · rcases b.fm x h with z | z | z
    · exact a.fm x z
    · rcases a.mem x z with k | k
      · exact .inr (.inl k)
      · exact .inr (.inr k)
    · exact .inr (.inr (un x z))
  · simp only [Bool.and_eq_true] at hq
    obtain ⟨e1, e2⟩ := hq
    subst e1 e2
    exact (b.keep x (a.tr x h2)).trans (a.keep x h2)
theorem Step.frame (b : Step q F1 H1 L1 F2 H2 L2) (g : Good F1 H1 (L1 ++ R)) : Step q F1 H1 (L1 ++ R) F2 H2 (L2 ++ R) := by
  have hd := List.nodup_append.mp g.nd
  have out : ∀ a ∈ R, a ∉ L1 := fun a ha z => hd.2.2 a z a ha rfl
  have lt : ∀ a ∈ R, H1 a ≠ none := fun a ha => g.lt a (List.mem_append_right _ ha)
  have nf : ∀ a ∈ R, ¬ F2 a := fun a ha z => by
    rcases b.fm a z with k | k | k
    · exact g.nf a (List.mem_append_right _ ha) k
    · exact out a ha k
    · exact lt a ha k
  refine ⟨⟨List.nodup_append.mpr ⟨b.good.nd, hd.2.1, fun x hx y hy e => ?_⟩, fun a ha => ?_, b.good.ft, fun a ha => ?_⟩, b.fs, fun a h1 h2 => b.kp a h1 fun z => h2 (List.mem_append_left _ z), b.tr, fun a ha => ?_, fun a ha => ?_, fun hq a ha h => ?_⟩
  · subst e
    rcases b.mem x hx with k | k
    · exact out x hy k
    · exact lt x hy k
  · rcases List.mem_append.mp ha with k | k
    · exact b.good.nf a k
    · exact nf a k
  · rcases List.mem_append.mp ha with k | k
    · exact b.good.lt a k
    · exact b.tr a (lt a k)
  · rcases List.mem_append.mp ha with k | k
    · rcases b.mem a k with z | z
      · exact .inl (List.mem_append_left _ z)
      · exact .inr z
    · exact .inl (List.mem_append_right _ k)
  · rcases b.fm a ha with k | k | k
    · exact .inl k
    · exact .inr (.inl (List.mem_append_left _ k))
    · exact .inr (.inr k)
  · subst hq
    exact b.keep a h
theorem Step.seq (a : Step q1 F H L F1 H1 (L1 ++ R)) (b : Step q2 F1 H1 L1 F2 H2 L2) : Step (q1 && q2) F H L F2 H2 (L2 ++ R) := a.trans (b.frame a.good)
/-- an operation that changes nothing owned -/
theorem Step.op (a : Step q F H L F1 H1 L1) (b : Step true F1 H1 [] F2 H2 M) : Step q F H L F2 H2 (L1 ++ M) := by
  have h := b.frame (R := L1) (L1 := []) (by rw [List.nil_append]; exact a.good)
  rw [List.nil_append] at h
  have z := (a.trans h).sub (Sub.swap L1 M)
  rw [Bool.and_true] at z
  exact z
/-- a new object -/
theorem Step.new {p : Addr} {o : HO} (g : Good F H L) (np : H p = none) : Step true F H L F (upd H p o) (L ++ [p]) := by
  have ne : ∀ a, H a ≠ none → a ≠ p := fun a h e => h (e ▸ np)
  refine ⟨⟨List.nodup_append.mpr ⟨g.nd, (by simp), fun x hx y hy e => ?_⟩, fun a ha => ?_, fun a h => ?_, fun a ha => ?_⟩, fun _ z => z, fun a h _ => upd_ne (ne a h), fun a h => ?_, fun a ha => ?_, fun _ z => .inl z, fun _ a _ h => upd_ne (ne a h)⟩
  · have e2 : y = p := List.mem_singleton.mp hy
    exact ne x (g.lt x hx) (e.trans e2)
  · rcases List.mem_append.mp ha with k | k
    · exact g.nf a k
    · have e2 : a = p := List.mem_singleton.mp k
      exact fun z => ne a (g.ft a z) e2
  · rw [upd_ne (ne a (g.ft a h))]; exact g.ft a h
  · rcases List.mem_append.mp ha with k | k
    · rw [upd_ne (ne a (g.lt a k))]; exact g.lt a k
    · have e2 : a = p := List.mem_singleton.mp k
      rw [e2, upd_same]; exact fun z => nomatch z
  · rw [upd_ne (ne a h)]; exact h
  · rcases List.mem_append.mp ha with k | k
    · exact .inl k
    · exact .inr (by rw [List.mem_singleton.mp k]; exact np)
/-- a part of what is owned becomes what never changes again -/
theorem Step.freeze (g : Good F H (L ++ R)) : Step true F H (L ++ R) (fun a => F a ∨ a ∈ R) H L := by
  have hd := List.nodup_append.mp g.nd
  refine ⟨⟨hd.1, fun a ha z => ?_, fun a h => ?_, fun a ha => g.lt a (List.mem_append_left _ ha)⟩, fun _ z => .inl z, fun _ _ _ => rfl, fun _ z => z, fun a ha => .inl (List.mem_append_left _ ha), fun a h => ?_, fun _ _ _ _ => rfl⟩
  · rcases z with z | z
    · exact g.nf a (List.mem_append_left _ ha) z
    · exact hd.2.2 a ha a z rfl
  · rcases h with h | h
    · exact g.ft a h
    · exact g.lt a (List.mem_append_right _ h)
  · rcases h with h | h
    · exact .inl h
    · exact .inr (.inl (List.mem_append_right _ h))
/-- a new tuple: never owned -/
theorem Step.newF {p : Addr} {o : HO} (g : Good F H L) (np : H p = none) : Step true F H L (fun a => F a ∨ a = p) (upd H p o) L := by
  have s := (Step.new (o := o) g np)
  have f := Step.freeze (R := [p]) (L := L) s.good
  have z := s.trans f
  rw [Bool.and_true] at z
  exact ⟨⟨z.good.nd, fun a ha k => z.good.nf a ha (by simpa using k), fun a k => z.good.ft a (by simpa using k), z.good.lt⟩, fun a k => .inl k, z.kp, z.tr, z.mem, fun a k => z.fm a (by simpa using k), z.qk⟩
end

section
variable (P : Program) (w : World) (K : PySem.W.Frag) (F : Addr → Prop) (H : Hp)
inductive SR0 : S2 → Sl → List Addr → Prop
  | nil : SR0 [] [] []
  | skip {o : Option V} {σ : S2} {τ : Sl} {L : List Addr} : SR0 σ τ L → SR0 (o :: σ) (none :: τ) L
  | cons {v : V} {x : Val} {L : List Addr} {σ : S2} {τ : Sl} {L' : List Addr} : VR P w K F H v x L → SR0 σ τ L' → SR0 (some v :: σ) (some x :: τ) (L ++ L')
def SR (σ : S2) (τ : Sl) (L : List Addr) : Prop := ∃ L0, SR0 P w K F H σ τ L0 ∧ L0.Perm L
end
section
variable {P : Program} {w : World} {K : PySem.W.Frag} {F F' F1 F2 : Addr → Prop} {H H' H1 H2 : Hp} {σ : S2} {τ : Sl} {L L' M : List Addr}
theorem SR0.mono (fs : ∀ a, F a → F' a) (fh : ∀ a, F a → H' a = H a) : ∀ {σ : S2} {τ : Sl} {L : List Addr}, SR0 P w K F H σ τ L → (∀ a ∈ L, H' a = H a) → SR0 P w K F' H' σ τ L
  | _, _, _, .nil, _ => .nil
  | _, _, _, .skip t, hl => .skip (SR0.mono fs fh t hl)
  | _, _, _, .cons h t, hl => .cons (h.mono fs fh fun a ha => hl a (List.mem_append_left _ ha)) (SR0.mono fs fh t fun a ha => hl a (List.mem_append_right _ ha))
theorem SR.mono (fs : ∀ a, F a → F' a) (fh : ∀ a, F a → H' a = H a) (s : SR P w K F H σ τ L) (hl : ∀ a ∈ L, H' a = H a) : SR P w K F' H' σ τ L := by
  obtain ⟨L0, h, p⟩ := s
  exact ⟨L0, h.mono fs fh fun a ha => hl a (p.mem_iff.mp ha), p⟩
theorem SR0.length : ∀ {σ : S2} {τ : Sl} {L : List Addr}, SR0 P w K F H σ τ L → σ.length = τ.length
  | _, _, _, .nil => rfl
  | _, _, _, .skip t => congrArg (· + 1) (SR0.length t)
  | _, _, _, .cons _ t => congrArg (· + 1) (SR0.length t)
theorem SR0.lt : ∀ {σ : S2} {τ : Sl} {L : List Addr}, SR0 P w K F H σ τ L → ∀ a ∈ L, H a ≠ none
  | _, _, _, .nil => fun _ z => nomatch z
  | _, _, _, .skip t => SR0.lt t
  | _, _, _, .cons h t => fun a ha => (List.mem_append.mp ha).elim (fun z => let ⟨o, e, _⟩ := h.lt a z; by rw [e]; exact fun k => nomatch k) (SR0.lt t a)
theorem SR0.at : ∀ {σ : S2} {τ : Sl} {L : List Addr} {i : Nat} {x : Val}, SR0 P w K F H σ τ L → τ[i]? = some (some x) →
    ∃ v Li Lr, σ[i]? = some (some v) ∧ VR P w K F H v x Li ∧ L.Perm (Li ++ Lr) ∧ (∀ v' x' L', VR P w K F H v' x' L' → ∃ L2, SR0 P w K F H (σ.set i (some v')) (τ.set i (some x')) L2 ∧ L2.Perm (L' ++ Lr)) ∧
      (∃ L2, SR0 P w K F H σ (τ.set i none) L2 ∧ L2.Perm Lr) ∧ ∀ x' L', VR P w K F H v x' L' → ∃ L2, SR0 P w K F H σ (τ.set i (some x')) L2 ∧ L2.Perm (L' ++ Lr)
  | _, _, _, _, _, .nil, e => by simp at e
  | _, _, _, 0, _, .skip t, e => by simp at e
  | _, _, _, i + 1, x, .skip (σ := σ) (τ := τ) t, e => by
    obtain ⟨v, Li, Lr, a1, a2, a3, a4, ⟨L2, b1, b2⟩, a5⟩ := SR0.at (i := i) (x := x) t (by simpa using e)
    refine ⟨v, Li, Lr, by simpa using a1, a2, a3, fun v' x' L' h => ?_, ⟨L2, by rw [List.set_cons_succ]; exact .skip b1, b2⟩, fun x' L' h => ?_⟩
    · obtain ⟨L3, c1, c2⟩ := a4 v' x' L' h
      exact ⟨L3, by rw [List.set_cons_succ, List.set_cons_succ]; exact .skip c1, c2⟩
    · obtain ⟨L3, c1, c2⟩ := a5 x' L' h
      exact ⟨L3, by rw [List.set_cons_succ]; exact .skip c1, c2⟩
  | _, _, _, 0, x, .cons (L := L) (L' := L') h t, e => by
    simp only [List.getElem?_cons_zero, Option.some.injEq] at e
    subst e
    refine ⟨_, L, L', rfl, h, List.Perm.refl _, fun v' x' L2 h2 => ⟨L2 ++ L', ?_, List.Perm.refl _⟩, ⟨L', ?_, List.Perm.refl _⟩, fun x' L2 h2 => ⟨L2 ++ L', ?_, List.Perm.refl _⟩⟩
    · rw [List.set_cons_zero, List.set_cons_zero]; exact .cons h2 t
    · rw [List.set_cons_zero]; exact .skip t
    · rw [List.set_cons_zero]; exact .cons h2 t
  | _, _, _, i + 1, x, .cons (v := v0) (L := L) (L' := L') h t, e => by
    obtain ⟨v, Li, Lr, a1, a2, a3, a4, ⟨L2, b1, b2⟩, a5⟩ := SR0.at (i := i) (x := x) t (by simpa using e)
    have pp : ∀ X : List Addr, (L ++ (X ++ Lr)).Perm (X ++ (L ++ Lr)) := fun X => by
      rw [← List.append_assoc, ← List.append_assoc]
      exact List.perm_append_comm.append_right _
    refine ⟨v, Li, L ++ Lr, by simpa using a1, a2, (a3.append_left L).trans (pp Li), fun v' x' L3 h3 => ?_, ⟨L ++ L2, by rw [List.set_cons_succ]; exact .cons h b1, b2.append_left L⟩, fun x' L3 h3 => ?_⟩
    · obtain ⟨L4, c1, c2⟩ := a4 v' x' L3 h3
      exact ⟨L ++ L4, by rw [List.set_cons_succ, List.set_cons_succ]; exact .cons h c1, (c2.append_left L).trans (pp L3)⟩
    · obtain ⟨L4, c1, c2⟩ := a5 x' L3 h3
      exact ⟨L ++ L4, by rw [List.set_cons_succ]; exact .cons h c1, (c2.append_left L).trans (pp L3)⟩
/-- a store at a slot, whatever it held -/
theorem SR0.put : ∀ {σ : S2} {τ : Sl} {L : List Addr} (i : Nat) {v : V} {x : Val} {Lv : List Addr}, SR0 P w K F H σ τ L → VR P w K F H v x Lv →
    ∃ L2, SR0 P w K F H (σ.set i (some v)) (τ.set i (some x)) L2 ∧ Sub L2 (Lv ++ L)
  | _, _, _, i, v, x, Lv, .nil, h => ⟨[], .nil, Sub.nil _⟩
  | _, _, _, 0, v, x, Lv, .skip (L := L) t, h => ⟨Lv ++ L, by rw [List.set_cons_zero, List.set_cons_zero]; exact .cons h t, Sub.refl _⟩
  | _, _, _, i + 1, v, x, Lv, .skip (L := L) t, h => by
    obtain ⟨L2, a, b⟩ := SR0.put i t h
    exact ⟨L2, by rw [List.set_cons_succ, List.set_cons_succ]; exact .skip a, b⟩
  | _, _, _, 0, v, x, Lv, .cons (L := L) (L' := L') h0 t, h => ⟨Lv ++ L', by rw [List.set_cons_zero, List.set_cons_zero]; exact .cons h t, (Sub.refl Lv).app (Sub.right L L')⟩
  | _, _, _, i + 1, v, x, Lv, .cons (L := L) (L' := L') h0 t, h => by
    obtain ⟨L2, a, b⟩ := SR0.put i t h
    refine ⟨L ++ L2, by rw [List.set_cons_succ, List.set_cons_succ]; exact .cons h0 a, ((Sub.refl L).app b).trans (Sub.of_perm ?_)⟩
    rw [← List.append_assoc, ← List.append_assoc]
    exact List.perm_append_comm.append_right _
theorem SR0.clear : ∀ {σ : S2} {τ : Sl} {L : List Addr} (i : Nat) (o : Option V), SR0 P w K F H σ τ L → ∃ L2, SR0 P w K F H (σ.set i o) (τ.set i none) L2 ∧ Sub L2 L
  | _, _, _, i, o, .nil => ⟨[], .nil, Sub.nil _⟩
  | _, _, _, 0, o, .skip (L := L) t => ⟨L, by rw [List.set_cons_zero, List.set_cons_zero]; exact .skip t, Sub.refl _⟩
  | _, _, _, i + 1, o, .skip (L := L) t => by
    obtain ⟨L2, a, b⟩ := SR0.clear i o t
    exact ⟨L2, by rw [List.set_cons_succ, List.set_cons_succ]; exact .skip a, b⟩
  | _, _, _, 0, o, .cons (L := L) (L' := L') h0 t => ⟨L', by rw [List.set_cons_zero, List.set_cons_zero]; exact .skip t, Sub.right L L'⟩
  | _, _, _, i + 1, o, .cons (L := L) (L' := L') h0 t => by
    obtain ⟨L2, a, b⟩ := SR0.clear i o t
    exact ⟨L ++ L2, by rw [List.set_cons_succ, List.set_cons_succ]; exact .cons h0 a, (Sub.refl L).app b⟩
theorem SR.put {i : Nat} {v : V} {x : Val} {Lv : List Addr} (s : SR P w K F H σ τ L) (h : VR P w K F H v x Lv) : ∃ L2, SR P w K F H (σ.set i (some v)) (τ.set i (some x)) L2 ∧ Sub L2 (L ++ Lv) := by
  obtain ⟨L0, s0, p⟩ := s
  obtain ⟨L2, a, b⟩ := s0.put i h
  exact ⟨L2, ⟨L2, a, List.Perm.refl _⟩, b.trans (Sub.of_perm ((p.append_left Lv).trans List.perm_append_comm))⟩
theorem SR.clear {i : Nat} {o : Option V} (s : SR P w K F H σ τ L) : ∃ L2, SR P w K F H (σ.set i o) (τ.set i none) L2 ∧ Sub L2 L := by
  obtain ⟨L0, s0, p⟩ := s
  obtain ⟨L2, a, b⟩ := s0.clear i o
  exact ⟨L2, ⟨L2, a, List.Perm.refl _⟩, b.trans (Sub.of_perm p)⟩
theorem SR.at {i : Nat} {x : Val} (s : SR P w K F H σ τ L) (e : τ[i]? = some (some x)) :
    ∃ v Li Lr, σ[i]? = some (some v) ∧ VR P w K F H v x Li ∧ L.Perm (Lr ++ Li) ∧ (∀ v' x' L', VR P w K F H v' x' L' → SR P w K F H (σ.set i (some v')) (τ.set i (some x')) (Lr ++ L')) ∧
      SR P w K F H σ (τ.set i none) Lr ∧ ∀ x' L', VR P w K F H v x' L' → SR P w K F H σ (τ.set i (some x')) (Lr ++ L') := by
  obtain ⟨L0, s0, p⟩ := s
  obtain ⟨v, Li, Lr, a1, a2, a3, a4, ⟨L2, b1, b2⟩, a5⟩ := s0.at e
  refine ⟨v, Li, Lr, a1, a2, p.symm.trans (a3.trans List.perm_append_comm), fun v' x' L' h => ?_, ⟨L2, b1, b2⟩, fun x' L' h => ?_⟩
  · obtain ⟨L3, c1, c2⟩ := a4 v' x' L' h
    exact ⟨L3, c1, c2.trans List.perm_append_comm⟩
  · obtain ⟨L3, c1, c2⟩ := a5 x' L' h
    exact ⟨L3, c1, c2.trans List.perm_append_comm⟩
theorem SR.length (s : SR P w K F H σ τ L) : σ.length = τ.length := let ⟨_, h, _⟩ := s; h.length
theorem SR.perm (s : SR P w K F H σ τ L) (p : L.Perm M) : SR P w K F H σ τ M := let ⟨L0, h, q⟩ := s; ⟨L0, h, q.trans p⟩
theorem SR.set_none {i : Nat} (s : SR P w K F H σ τ L) : ∃ L2, SR P w K F H σ (τ.set i none) L2 ∧ Sub L2 L := by
  cases e : τ[i]? with
  | none =>
    have hl : τ.length ≤ i := List.getElem?_eq_none_iff.mp e
    rw [List.set_eq_of_length_le hl]
    exact ⟨L, s, Sub.refl _⟩
  | some o =>
    cases o with
    | none =>
      have : τ.set i none = τ := by
        refine List.ext_getElem? fun j => ?_
        by_cases hj : i = j
        · subst hj
          have hl : i < τ.length := by
            rcases Nat.lt_or_ge i τ.length with c | c
            · exact c
            · rw [List.getElem?_eq_none c] at e; cases e
          rw [List.getElem?_set_self hl, e]
        · rw [List.getElem?_set_ne hj]
      rw [this]
      exact ⟨L, s, Sub.refl _⟩
    | some x =>
      obtain ⟨v, Li, Lr, _, _, p, _, s2, _⟩ := s.at e
      exact ⟨Lr, s2, (Sub.left Lr Li).trans (Sub.of_perm p.symm)⟩
end
end MV
end

section
set_option maxHeartbeats 4000000
/-! expressions by content -/
namespace MV
open PySem PySem.Spec PyProof.Rows L2

abbrev Ev := Sl → Option (Val × Sl)
abbrev Evs := Sl → Option (List Val × Sl)
abbrev Tv := Sl → Option (Bool × Sl)

section
variable {P : Program} {w : World} {K : PySem.W.Frag} {F F' : Addr → Prop} {H H' : Hp} {L M Lv : List Addr} {q : Bool}
theorem VR.stepR {v : V} {x : Val} (h : VR P w K F H v x Lv) (st : Step q F H L F' H' M) (ft : ∀ a, F a → H a ≠ none) (nf : ∀ a ∈ L, ¬ F a) (hd : ∀ a ∈ Lv, a ∉ L) : VR P w K F' H' v x Lv :=
  h.mono st.fs (fun a ha => st.kp a (ft a ha) fun z => nf a z ha) fun a ha => st.kp a (by obtain ⟨o, e, _⟩ := h.lt a ha; rw [e]; exact fun z => nomatch z) (hd a ha)
theorem VR.stepQ {v : V} {x : Val} (h : VR P w K F H v x Lv) (st : Step true F H L F' H' M) (ft : ∀ a, F a → H a ≠ none) : VR P w K F' H' v x Lv :=
  h.mono st.fs (fun a ha => st.keep a (ft a ha)) fun a ha => st.keep a (by obtain ⟨o, e, _⟩ := h.lt a ha; rw [e]; exact fun z => nomatch z)
theorem VRs.stepR {vs : List V} {xs : List Val} (h : VRs P w K F H vs xs Lv) (st : Step q F H L F' H' M) (ft : ∀ a, F a → H a ≠ none) (nf : ∀ a ∈ L, ¬ F a) (hd : ∀ a ∈ Lv, a ∉ L) : VRs P w K F' H' vs xs Lv :=
  h.mono st.fs (fun a ha => st.kp a (ft a ha) fun z => nf a z ha) fun a ha => st.kp a (by obtain ⟨o, e, _⟩ := h.lt a ha; rw [e]; exact fun z => nomatch z) (hd a ha)
theorem VRs.stepQ {vs : List V} {xs : List Val} (h : VRs P w K F H vs xs Lv) (st : Step true F H L F' H' M) (ft : ∀ a, F a → H a ≠ none) : VRs P w K F' H' vs xs Lv :=
  h.mono st.fs (fun a ha => st.keep a (ft a ha)) fun a ha => st.keep a (by obtain ⟨o, e, _⟩ := h.lt a ha; rw [e]; exact fun z => nomatch z)
theorem SR.stepQ {σ : S2} {τ : Sl} (h : SR P w K F H σ τ Lv) (st : Step true F H L F' H' M) (ft : ∀ a, F a → H a ≠ none) : SR P w K F' H' σ τ Lv :=
  h.mono st.fs (fun a ha => st.keep a (ft a ha)) fun a ha => st.keep a (by obtain ⟨L0, s, p⟩ := h; exact s.lt a (p.mem_iff.mpr ha))
theorem SR.stepR {σ : S2} {τ : Sl} (h : SR P w K F H σ τ Lv) (st : Step q F H L F' H' M) (ft : ∀ a, F a → H a ≠ none) (nf : ∀ a ∈ L, ¬ F a) (hd : ∀ a ∈ Lv, a ∉ L) : SR P w K F' H' σ τ Lv :=
  h.mono st.fs (fun a ha => st.kp a (ft a ha) fun z => nf a z ha) fun a ha => st.kp a (by obtain ⟨L0, s, p⟩ := h; exact s.lt a (p.mem_iff.mpr ha)) (hd a ha)
theorem Step.andT {F1 : Addr → Prop} {H1 : Hp} {M : List Addr} (s : Step (q && true) F H L F1 H1 M) : Step q F H L F1 H1 M := by rw [Bool.and_true] at s; exact s
theorem Step.andS {F1 : Addr → Prop} {H1 : Hp} {M : List Addr} (s : Step (q && q) F H L F1 H1 M) : Step q F H L F1 H1 M := by rw [Bool.and_self] at s; exact s
end

section
variable (P : Program) (w : World) (K : PySem.W.Frag) (q : Bool)
def tE (D : Ev) : TE := fun σ H Q => ∃ F τ L x τ', SR P w K F H σ τ L ∧ Good F H L ∧ D τ = some (x, τ') ∧
  ∀ v F' H' L' Lr, VR P w K F' H' v x Lr → SR P w K F' H' σ τ' L' → Step q F H L F' H' (L' ++ Lr) → Q v H'
/-- an operand: it is looked at alone, and may be part of a slot's -/
def tO (D : Ev) : TE := fun σ H Q => ∃ F τ L x τ', SR P w K F H σ τ L ∧ Good F H L ∧ D τ = some (x, τ') ∧
  ∀ v F' H' L' Lr, VR P w K F' H' v x Lr → SR P w K F' H' σ τ' L' → Step q F H L F' H' L' → Q v H'
def tT (D : Tv) : TT := fun σ H Q => ∃ F τ L b τ', SR P w K F H σ τ L ∧ Good F H L ∧ D τ = some (b, τ') ∧
  ∀ F' H' L', SR P w K F' H' σ τ' L' → Step q F H L F' H' L' → Q b H'
def tEs (D : Evs) : TA := fun σ H Q => ∃ F τ L xs τ', SR P w K F H σ τ L ∧ Good F H L ∧ D τ = some (xs, τ') ∧
  ∀ vs F' H' L' Lr, VRs P w K F' H' vs xs Lr → SR P w K F' H' σ τ' L' → Step q F H L F' H' (L' ++ Lr) → Q vs H'
def tOs (D : Evs) : TA := fun σ H Q => ∃ F τ L xs τ', SR P w K F H σ τ L ∧ Good F H L ∧ D τ = some (xs, τ') ∧
  ∀ vs F' H' L' Lr, VRs P w K F' H' vs xs Lr → SR P w K F' H' σ τ' L' → Step q F H L F' H' L' → Q vs H'
end
abbrev SE (q : Bool) (X : Cx) (e : Expr) (D : Ev) : Prop := PE X e (tE X.prog X.w X.K q D)
abbrev SO (q : Bool) (X : Cx) (e : Expr) (D : Ev) : Prop := PE X e (tO X.prog X.w X.K q D)
abbrev ST (q : Bool) (X : Cx) (e : Expr) (D : Tv) : Prop := PT X e (tT X.prog X.w X.K q D)
abbrev SW (q : Bool) (X : Cx) (e : Expr) (D : Tv) : Prop := PW X e (tT X.prog X.w X.K q D)
abbrev SEs (q : Bool) (X : Cx) (es : List Expr) (D : Evs) : Prop := PA X es (tEs X.prog X.w X.K q D)
abbrev SOs (q : Bool) (X : Cx) (es : List Expr) (D : Evs) : Prop := PA X es (tOs X.prog X.w X.K q D)

theorem peI {X : Cx} {e : Expr} {t t' : TE} (h : PE X e t) (i : ∀ σ H Q, t' σ H Q → t σ H Q) : PE X e t' := ⟨fun pins s σ H Q I hw => h.run pins s σ H Q I (i σ H Q hw)⟩
theorem ptI {X : Cx} {e : Expr} {t t' : TT} (h : PT X e t) (i : ∀ σ H Q, t' σ H Q → t σ H Q) : PT X e t' := ⟨fun pins s σ H Q I hw => h.run pins s σ H Q I (i σ H Q hw)⟩
theorem pwI {X : Cx} {e : Expr} {t t' : TT} (h : PW X e t) (i : ∀ σ H Q, t' σ H Q → t σ H Q) : PW X e t' := ⟨fun wh pins s σ H Q I hw => h.run wh pins s σ H Q I (i σ H Q hw)⟩
theorem paI {X : Cx} {es : List Expr} {t t' : TA} (h : PA X es t) (i : ∀ σ H Q, t' σ H Q → t σ H Q) : PA X es t' := ⟨fun pos pins s σ H Q I hw => h.run pos pins s σ H Q I (i σ H Q hw)⟩
theorem psI {X : Cx} {st : Stmt} {t t' : TS} (h : PS X st t) (i : ∀ D σ H, t' D σ H → t D σ H) : PS X st t' := ⟨fun pins s σ H D I hw => h.run pins s σ H D I (i D σ H hw)⟩
theorem pssI {X : Cx} {st : List Stmt} {t t' : TS} (h : PSs X st t) (i : ∀ D σ H, t' D σ H → t D σ H) : PSs X st t' := ⟨fun pins s σ H D I hw => h.run pins s σ H D I (i D σ H hw)⟩

section
variable {X : Cx} {q : Bool} {e a b : Expr} {D Da Db : Ev} {pos : Pos}
theorem SE.weak (h : SE true X e D) : SE q X e D := peI h fun σ H Q ⟨F, τ, L, x, τ', s, g, ev, post⟩ => ⟨F, τ, L, x, τ', s, g, ev, fun v F' H' L' Lr h1 h2 h3 => post v F' H' L' Lr h1 h2 h3.weak'⟩
theorem SO.weak (h : SO true X e D) : SO q X e D := peI h fun σ H Q ⟨F, τ, L, x, τ', s, g, ev, post⟩ => ⟨F, τ, L, x, τ', s, g, ev, fun v F' H' L' Lr h1 h2 h3 => post v F' H' L' Lr h1 h2 h3.weak'⟩
theorem ST.weak {D : Tv} (h : ST true X e D) : ST q X e D := ptI h fun σ H Q ⟨F, τ, L, x, τ', s, g, ev, post⟩ => ⟨F, τ, L, x, τ', s, g, ev, fun F' H' L' h2 h3 => post F' H' L' h2 h3.weak'⟩
theorem SW.weak {D : Tv} (h : SW true X e D) : SW q X e D := pwI h fun σ H Q ⟨F, τ, L, x, τ', s, g, ev, post⟩ => ⟨F, τ, L, x, τ', s, g, ev, fun F' H' L' h2 h3 => post F' H' L' h2 h3.weak'⟩
theorem SEs.weak {es : List Expr} {D : Evs} (h : SEs true X es D) : SEs q X es D := paI h fun σ H Q ⟨F, τ, L, x, τ', s, g, ev, post⟩ => ⟨F, τ, L, x, τ', s, g, ev, fun v F' H' L' Lr h1 h2 h3 => post v F' H' L' Lr h1 h2 h3.weak'⟩
theorem SOs.weak {es : List Expr} {D : Evs} (h : SOs true X es D) : SOs q X es D := paI h fun σ H Q ⟨F, τ, L, x, τ', s, g, ev, post⟩ => ⟨F, τ, L, x, τ', s, g, ev, fun v F' H' L' Lr h1 h2 h3 => post v F' H' L' Lr h1 h2 h3.weak'⟩
theorem SE.o (h : SE q X e D) : SO q X e D := peI h fun σ H Q ⟨F, τ, L, x, τ', s, g, ev, post⟩ => ⟨F, τ, L, x, τ', s, g, ev, fun v F' H' L' Lr h1 h2 h3 => post v F' H' L' Lr h1 h2 (h3.sub (Sub.left L' Lr))⟩

/-! constants and names -/
def cC (x : Val) : Ev := fun τ => some (x, τ)
theorem tE_const {P : Program} {w : World} {K : PySem.W.Frag} {v : V} {x : Val} (hv : ∀ F H, VR P w K F H v x []) (σ : S2) (H : Hp) (Q : VK) (h : tE P w K true (cC x) σ H Q) : tC v σ H Q := by
  obtain ⟨F, τ, L, x', τ', s, g, ev, post⟩ := h
  simp only [cC, Option.some.injEq, Prod.mk.injEq] at ev
  obtain ⟨rfl, rfl⟩ := ev
  exact post v F H L [] (hv F H) s (by rw [List.append_nil]; exact Step.refl g)
theorem se_int {i : Int} {j} : SE true X (.Constant (.int i) j pos) (cC (.int i)) := peI pe_int (tE_const fun _ _ => .int i)
theorem se_bl {c : Bool} {j} : SE true X (.Constant (.bool c) j pos) (cC (.bl c)) := peI pe_bl (tE_const fun _ _ => .bl c)
theorem se_non {j} : SE true X (.Constant .none j pos) (cC .non) := peI pe_non (tE_const fun _ _ => .non)
theorem se_str {z : Str} {j} : SE true X (.Constant (.str z) j pos) (cC (.str z)) := peI pe_str (tE_const fun _ _ => .str z)
theorem se_glob {x : Str} {v : V} {y : Val} {u : Value} (hm : X.mg x = some u) (r : RelV v u) (hv : ∀ F H, VR X.prog X.w X.K F H v y []) (hg : Gl X x := by rfl) (hd : (x == ("__debug__" : Str)) = false := by decide) : SE true X (.Name x pos) (cC y) :=
  peI (pe_glob hg hm r hd) (tE_const hv)

def rdO (i : Nat) : Ev := fun τ => (τ[i]?).bind fun o => o.bind fun x => some (x, τ)
def rdE (i : Nat) : Ev := fun τ => (τ[i]?).bind fun o => o.bind fun x => if x.pure = true then some (x, τ) else some (x.frz, τ.set i (some x.frz))
def mvE (i : Nat) : Ev := fun τ => (τ[i]?).bind fun o => o.bind fun x => some (x, τ.set i none)
theorem slot_some {τ : Sl} {i : Nat} {α : Type} {f : Val → Option α} {z : α} (h : ((τ[i]?).bind fun o => o.bind f) = some z) : ∃ x, τ[i]? = some (some x) ∧ f x = some z := by
  cases e : τ[i]? with
  | none => rw [e] at h; exact nomatch h
  | some o =>
    rw [e] at h
    cases o with
    | none => exact nomatch h
    | some x => exact ⟨x, rfl, h⟩
section
variable {P : Program} {w : World} {K : PySem.W.Frag} {i : Nat}
theorem tO_rd (σ : S2) (H : Hp) (Q : VK) (h : tO P w K true (rdO i) σ H Q) : tVar i σ H Q := by
  obtain ⟨F, τ, L, x, τ', s, g, ev, post⟩ := h
  obtain ⟨y, e, ev⟩ := slot_some ev
  cases ev
  obtain ⟨v, Li, Lr, a1, a2, p, _, _, _⟩ := s.at e
  exact ⟨v, a1, post v F H L Li a2 s (Step.refl g)⟩
theorem tE_rd (σ : S2) (H : Hp) (Q : VK) (h : tE P w K true (rdE i) σ H Q) : tVar i σ H Q := by
  obtain ⟨F, τ, L, x, τ', s, g, ev, post⟩ := h
  obtain ⟨y, e, ev⟩ := slot_some ev
  obtain ⟨v, Li, Lr, a1, a2, p, a4, a5, a6⟩ := s.at e
  by_cases hp : y.pure = true
  · rw [if_pos hp] at ev
    cases ev
    exact ⟨v, a1, post v F H L [] (a2.pureV hp) s (by rw [List.append_nil]; exact Step.refl g)⟩
  · rw [if_neg hp] at ev
    cases ev
    have g2 : Good F H (Lr ++ Li) := g.sub (Sub.of_perm p.symm)
    have fz : VR P w K (fun a => F a ∨ a ∈ Li) H v y.frz [] := a2.frz (fun _ z => .inl z) fun a ha => .inr ha
    have s2 := a6 y Li a2
    have st := Step.freeze g2
    refine ⟨v, a1, post v (fun a => F a ∨ a ∈ Li) H Lr [] fz ?_ ?_⟩
    · -- the slots, frozen there
      obtain ⟨L0, s0, p0⟩ := s
      have s0' : SR P w K (fun a => F a ∨ a ∈ Li) H σ (τ.set i none) Lr := a5.mono (fun _ z => .inl z) (fun _ _ => rfl) fun _ _ => rfl
      have key : ∀ {σ : S2} {τ : Sl} {L : List Addr} {i : Nat}, SR0 P w K (fun a => F a ∨ a ∈ Li) H σ (τ.set i none) L → σ[i]? = some (some v) → i < τ.length → SR0 P w K (fun a => F a ∨ a ∈ Li) H σ (τ.set i (some y.frz)) L := by
        intro σ τ
        induction τ generalizing σ with
        | nil => intro L i h1 h2 h3; exact absurd h3 (Nat.not_lt_zero _)
        | cons o τ ih =>
          intro L i h1 h2 h3
          cases i with
          | zero =>
            rw [List.set_cons_zero] at h1 ⊢
            cases h1 with
            | skip t =>
              simp only [List.getElem?_cons_zero, Option.some.injEq] at h2
              subst h2
              have z := SR0.cons fz t
              rwa [List.nil_append] at z
          | succ i =>
            rw [List.set_cons_succ] at h1 ⊢
            cases h1 with
            | skip t => exact .skip (ih t (by simpa using h2) (by simpa using h3))
            | cons h t => exact .cons h (ih t (by simpa using h2) (by simpa using h3))
      obtain ⟨L3, s3, p3⟩ := s0'
      have hi : i < τ.length := by
        rcases Nat.lt_or_ge i τ.length with c | c
        · exact c
        · rw [List.getElem?_eq_none c] at e; cases e
      exact ⟨L3, key s3 a1 hi, p3⟩
    · rw [List.append_nil]
      exact ⟨st.good, st.fs, fun a h1 h2 => rfl, st.tr, fun a ha => .inl (p.mem_iff.mpr (List.mem_append_left _ ha)), fun a ha => by
        rcases ha with z | z
        · exact .inl z
        · exact .inr (.inl (p.mem_iff.mpr (List.mem_append_right _ z))), fun _ _ _ _ => rfl⟩
theorem tE_mv (σ : S2) (H : Hp) (Q : VK) (h : tE P w K true (mvE i) σ H Q) : tVar i σ H Q := by
  obtain ⟨F, τ, L, x, τ', s, g, ev, post⟩ := h
  obtain ⟨y, e, ev⟩ := slot_some ev
  cases ev
  obtain ⟨v, Li, Lr, a1, a2, p, a4, a5, a6⟩ := s.at e
  exact ⟨v, a1, post v F H Lr Li a2 a5 ((Step.refl g).sub (Sub.of_perm p.symm))⟩
end
theorem so_rd (i : Nat) {x : Str} (hN : X.N[i]? = some x := by rfl) (hv : Vis X.env.scope x := by first | exact Or.inl rfl | exact Or.inr (Or.inl rfl) | exact Or.inr (Or.inr rfl)) (hd : (x == ("__debug__" : Str)) = false := by decide)
    (hcd : (x == ("__classdict__" : Str)) = false := by decide) : SO true X (.Name x pos) (rdO i) := peI (pe_var hN hv hd hcd) tO_rd
theorem se_rd (i : Nat) {x : Str} (hN : X.N[i]? = some x := by rfl) (hv : Vis X.env.scope x := by first | exact Or.inl rfl | exact Or.inr (Or.inl rfl) | exact Or.inr (Or.inr rfl)) (hd : (x == ("__debug__" : Str)) = false := by decide)
    (hcd : (x == ("__classdict__" : Str)) = false := by decide) : SE true X (.Name x pos) (rdE i) := peI (pe_var hN hv hd hcd) tE_rd
theorem se_mv (i : Nat) {x : Str} (hN : X.N[i]? = some x := by rfl) (hv : Vis X.env.scope x := by first | exact Or.inl rfl | exact Or.inr (Or.inl rfl) | exact Or.inr (Or.inr rfl)) (hd : (x == ("__debug__" : Str)) = false := by decide)
    (hcd : (x == ("__classdict__" : Str)) = false := by decide) : SE true X (.Name x pos) (mvE i) := peI (pe_var hN hv hd hcd) tE_mv

/-! operations on values -/
/-- g says what the reading r asks of two values, and gives something new or unowned -/
def M2 (P : Program) (w : World) (K : PySem.W.Frag) (r : R2) (g : Val → Val → Option Val) : Prop :=
  ∀ (F : Addr → Prop) (H : Hp) (vx vy : V) (x y : Val) (Lx Ly : List Addr) (z : Val) (Q : VK), (∀ a, F a → H a ≠ none) → VR P w K F H vx x Lx → VR P w K F H vy y Ly → g x y = some z →
    (∀ v F' H' Lr, VR P w K F' H' v z Lr → Step true F H [] F' H' Lr → Q v H') → r vx vy H Q
def M1 (P : Program) (w : World) (K : PySem.W.Frag) (r : V → Hp → VK → Prop) (g : Val → Option Val) : Prop :=
  ∀ (F : Addr → Prop) (H : Hp) (vx : V) (x : Val) (Lx : List Addr) (z : Val) (Q : VK), (∀ a, F a → H a ≠ none) → VR P w K F H vx x Lx → g x = some z →
    (∀ v F' H' Lr, VR P w K F' H' v z Lr → Step true F H [] F' H' Lr → Q v H') → r vx H Q
def MN (P : Program) (w : World) (K : PySem.W.Frag) (r : List V → Hp → VK → Prop) (g : List Val → Option Val) : Prop :=
  ∀ (F : Addr → Prop) (H : Hp) (vs : List V) (xs : List Val) (Lx : List Addr) (z : Val) (Q : VK), (∀ a, F a → H a ≠ none) → VRs P w K F H vs xs Lx → g xs = some z →
    (∀ v F' H' Lr, VR P w K F' H' v z Lr → Step true F H [] F' H' Lr → Q v H') → r vs H Q
theorem good_nil {F : Addr → Prop} {H : Hp} (ft : ∀ a, F a → H a ≠ none) : Good F H [] := ⟨List.nodup_nil, (fun _ z => nomatch z), ft, (fun _ z => nomatch z)⟩
theorem Step.id {F : Addr → Prop} {H : Hp} (ft : ∀ a, F a → H a ≠ none) : Step true F H [] F H [] := Step.refl (good_nil ft)

def c1 (g : Val → Option Val) (D : Ev) : Ev := fun τ => (D τ).bind fun p => (g p.1).bind fun z => some (z, p.2)
def c2 (g : Val → Val → Option Val) (Da Db : Ev) : Ev := fun τ => (Da τ).bind fun p => (Db p.2).bind fun r => (g p.1 r.1).bind fun z => some (z, r.2)
def cN (g : List Val → Option Val) (Ds : Evs) : Ev := fun τ => (Ds τ).bind fun p => (g p.1).bind fun z => some (z, p.2)
def nilM : Evs := fun τ => some ([], τ)
def consM (D : Ev) (Ds : Evs) : Evs := fun τ => (D τ).bind fun p => (Ds p.2).bind fun r => some (p.1 :: r.1, r.2)
theorem bind_eq {α β : Type} {o : Option α} {f : α → Option β} {z : β} (h : o.bind f = some z) : ∃ x, o = some x ∧ f x = some z := by
  cases o with
  | none => exact nomatch h
  | some x => exact ⟨x, rfl, h⟩
section
variable {P : Program} {w : World} {K : PySem.W.Frag}
theorem tUn_ok {r : V → Hp → VK → Prop} {g : Val → Option Val} (hm : M1 P w K r g) (σ : S2) (H : Hp) (Q : VK) (h : tE P w K q (c1 g D) σ H Q) : tUn r (tO P w K q D) σ H Q := by
  obtain ⟨F, τ, L, z, τ', s, gd, ev, post⟩ := h
  obtain ⟨⟨x, τ1⟩, e1, ev⟩ := bind_eq ev
  obtain ⟨z', e2, ev⟩ := bind_eq ev
  cases ev
  refine ⟨F, τ, L, x, τ1, s, gd, e1, fun v F1 H1 L1 Lr h1 s1 st1 => ?_⟩
  refine hm F1 H1 v x Lr z Q st1.good.ft h1 e2 fun u F2 H2 M h2 st2 => post u F2 H2 L1 M h2 (s1.stepQ st2 st1.good.ft) (st1.op st2)
theorem tOp_ok {r : R2} {g : Val → Val → Option Val} (hm : M2 P w K r g) (σ : S2) (H : Hp) (Q : VK) (h : tE P w K q (c2 g Da Db) σ H Q) : tOp r (tO P w K q Da) (tO P w K true Db) σ H Q := by
  obtain ⟨F, τ, L, z, τ', s, gd, ev, post⟩ := h
  obtain ⟨⟨x, τ1⟩, e1, ev⟩ := bind_eq ev
  obtain ⟨⟨y, τ2⟩, e2, ev⟩ := bind_eq ev
  obtain ⟨z', e3, ev⟩ := bind_eq ev
  cases ev
  refine ⟨F, τ, L, x, τ1, s, gd, e1, fun v1 F1 H1 L1 Lr1 h1 s1 st1 => ?_⟩
  refine ⟨F1, τ1, L1, y, _, s1, st1.good, e2, fun v2 F2 H2 L2 Lr2 h2 s2 st2 => ?_⟩
  refine hm F2 H2 v1 v2 x y Lr1 Lr2 z Q st2.good.ft (h1.stepQ st2 st1.good.ft) h2 e3 fun u F3 H3 M h3 st3 => post u F3 H3 L2 M h3 (s2.stepQ st3 st2.good.ft) ((st1.trans st2).andT.op st3)
theorem tOp_ok' {r : R2} {g : Val → Val → Option Val} (hm : M2 P w K r g) (σ : S2) (H : Hp) (Q : VK) (h : tE P w K q (c2 g Da Db) σ H Q) : tOp r (tE P w K q Da) (tO P w K q Db) σ H Q := by
  obtain ⟨F, τ, L, z, τ', s, gd, ev, post⟩ := h
  obtain ⟨⟨x, τ1⟩, e1, ev⟩ := bind_eq ev
  obtain ⟨⟨y, τ2⟩, e2, ev⟩ := bind_eq ev
  obtain ⟨z', e3, ev⟩ := bind_eq ev
  cases ev
  refine ⟨F, τ, L, x, τ1, s, gd, e1, fun v1 F1 H1 L1 Lr1 h1 s1 st1 => ?_⟩
  have g1 := st1.good.sub (Sub.left L1 Lr1)
  refine ⟨F1, τ1, L1, y, _, s1, g1, e2, fun v2 F2 H2 L2 Lr2 h2 s2 st2 => ?_⟩
  have dj := (List.nodup_append.mp st1.good.nd).2.2
  refine hm F2 H2 v1 v2 x y Lr1 Lr2 z Q st2.good.ft (h1.stepR st2 g1.ft g1.nf fun a ha k => dj a k a ha rfl) h2 e3 fun u F3 H3 M h3 st3 => post u F3 H3 L2 M h3 (s2.stepQ st3 st2.good.ft) ?_
  exact ((((st1.sub (Sub.left L1 Lr1)).trans st2).andS).op st3)
end
theorem se_un {op : UnaryOp} {r : V → Hp → VK → Prop} {g : Val → Option Val} (ho : UnR X (unaryOp op) r) (hm : M1 X.prog X.w X.K r g) (ha : SO q X a D) : SE q X (.UnaryOp op a pos) (c1 g D) := peI (pe_un ho ha) (tUn_ok hm)
theorem se_op {op : Operator} {r : R2} {g : Val → Val → Option Val} (ho : OpR X (binaryOp op) r) (hm : M2 X.prog X.w X.K r g) (ha : SO q X a Da) (hb : SO true X b Db) : SE q X (.BinOp a op b pos) (c2 g Da Db) := peI (pe_op ho ha hb) (tOp_ok hm)
theorem se_op' {op : Operator} {r : R2} {g : Val → Val → Option Val} (ho : OpR X (binaryOp op) r) (hm : M2 X.prog X.w X.K r g) (ha : SE q X a Da) (hb : SO q X b Db) : SE q X (.BinOp a op b pos) (c2 g Da Db) := peI (pe_op ho ha hb) (tOp_ok' hm)
theorem se_cmp {op : CmpOp} {r : R2} {g : Val → Val → Option Val} (ho : OpR X (compareOp op) r) (hm : M2 X.prog X.w X.K r g) (ha : SO q X a Da) (hb : SO true X b Db) (hmk : behindInMarks op b = false) : SE q X (.Compare a [op] [b] pos) (c2 g Da Db) := peI (pe_cmpR ho ha hb hmk) (tOp_ok hm)
theorem se_cmp' {op : CmpOp} {r : R2} {g : Val → Val → Option Val} (ho : OpR X (compareOp op) r) (hm : M2 X.prog X.w X.K r g) (ha : SE q X a Da) (hb : SO q X b Db) (hmk : behindInMarks op b = false) : SE q X (.Compare a [op] [b] pos) (c2 g Da Db) := peI (pe_cmpR ho ha hb hmk) (tOp_ok' hm)
theorem se_ix {r : R2} {g : Val → Val → Option Val} (hr : IxR X r) (hm : M2 X.prog X.w X.K r g) (ha : SO q X a Da) (hb : SO true X b Db) (hs : PlainIx b) : SE q X (.Subscript a b pos) (c2 g Da Db) := peI (pe_ix hr ha hb hs) (tOp_ok hm)
theorem se_ix' {r : R2} {g : Val → Val → Option Val} (hr : IxR X r) (hm : M2 X.prog X.w X.K r g) (ha : SE q X a Da) (hb : SO q X b Db) (hs : PlainIx b) : SE q X (.Subscript a b pos) (c2 g Da Db) := peI (pe_ix hr ha hb hs) (tOp_ok' hm)

/-! argument lists -/
section
variable {es : List Expr} {Ds : Evs}
theorem ses_nil : SEs true X [] nilM := paI pa_nil fun σ H Q ⟨F, τ, L, x, τ', s, g, ev, post⟩ => by
  cases ev
  exact post [] F H L [] .nil s (by rw [List.append_nil]; exact Step.refl g)
theorem sos_nil : SOs true X [] nilM := paI pa_nil fun σ H Q ⟨F, τ, L, x, τ', s, g, ev, post⟩ => by
  cases ev
  exact post [] F H L [] .nil s (Step.refl g)
theorem ses_cons (ha : SE q X e D) (hr : SEs q X es Ds) (hs : starEach (e :: es) X.env = (false, eval e X.env) :: starEach es X.env := by rfl) : SEs q X (e :: es) (consM D Ds) :=
  paI (pa_cons ha hr hs) fun σ H Q ⟨F, τ, L, z, τ', s, g, ev, post⟩ => by
    obtain ⟨⟨x, τ1⟩, e1, ev⟩ := bind_eq ev
    obtain ⟨⟨ys, τ2⟩, e2, ev⟩ := bind_eq ev
    cases ev
    refine ⟨F, τ, L, x, τ1, s, g, e1, fun v1 F1 H1 L1 Lr1 h1 s1 st1 => ?_⟩
    have g1 := st1.good.sub (Sub.left L1 Lr1)
    refine ⟨F1, τ1, L1, ys, _, s1, g1, e2, fun v2 F2 H2 L2 Lr2 h2 s2 st2 => ?_⟩
    have dj := (List.nodup_append.mp st1.good.nd).2.2
    refine post _ F2 H2 L2 (Lr1 ++ Lr2) (.cons (h1.stepR st2 g1.ft g1.nf fun a ha k => dj a k a ha rfl) h2) s2 ?_
    have z := (st1.seq st2).andS
    refine z.sub (Sub.of_perm ?_)
    rw [List.append_assoc]
    exact List.perm_append_comm.append_left L2
theorem sos_cons (ha : SO q X e D) (hr : SOs true X es Ds) (hs : starEach (e :: es) X.env = (false, eval e X.env) :: starEach es X.env := by rfl) : SOs q X (e :: es) (consM D Ds) :=
  paI (pa_cons ha hr hs) fun σ H Q ⟨F, τ, L, z, τ', s, g, ev, post⟩ => by
    obtain ⟨⟨x, τ1⟩, e1, ev⟩ := bind_eq ev
    obtain ⟨⟨ys, τ2⟩, e2, ev⟩ := bind_eq ev
    cases ev
    refine ⟨F, τ, L, x, τ1, s, g, e1, fun v1 F1 H1 L1 Lr1 h1 s1 st1 => ?_⟩
    refine ⟨F1, τ1, L1, ys, _, s1, st1.good, e2, fun v2 F2 H2 L2 Lr2 h2 s2 st2 => ?_⟩
    exact post _ F2 H2 L2 (Lr1 ++ Lr2) (.cons (h1.stepQ st2 st1.good.ft) h2) s2 (st1.trans st2).andT
theorem sos_cons' (ha : SE q X e D) (hr : SOs q X es Ds) (hs : starEach (e :: es) X.env = (false, eval e X.env) :: starEach es X.env := by rfl) : SOs q X (e :: es) (consM D Ds) :=
  paI (pa_cons ha hr hs) fun σ H Q ⟨F, τ, L, z, τ', s, g, ev, post⟩ => by
    obtain ⟨⟨x, τ1⟩, e1, ev⟩ := bind_eq ev
    obtain ⟨⟨ys, τ2⟩, e2, ev⟩ := bind_eq ev
    cases ev
    refine ⟨F, τ, L, x, τ1, s, g, e1, fun v1 F1 H1 L1 Lr1 h1 s1 st1 => ?_⟩
    have g1 := st1.good.sub (Sub.left L1 Lr1)
    refine ⟨F1, τ1, L1, ys, _, s1, g1, e2, fun v2 F2 H2 L2 Lr2 h2 s2 st2 => ?_⟩
    have dj := (List.nodup_append.mp st1.good.nd).2.2
    exact post _ F2 H2 L2 (Lr1 ++ Lr2) (.cons (h1.stepR st2 g1.ft g1.nf fun a ha k => dj a k a ha rfl) h2) s2 ((st1.sub (Sub.left L1 Lr1)).trans st2).andS

/-! displays -/
def mkTup (xs : List Val) : Option Val := if xs.length ≤ sizeLine then some (.tup xs) else none
def mkLst (xs : List Val) : Option Val := if xs.length ≤ sizeLine then some (.lst true xs) else none
theorem se_tup {k : Nat} (h : SEs q X es Ds) : SE q X (.Tuple es k pos) (cN mkTup Ds) := peI (pe_tup h) fun σ H Q ⟨F, τ, L, z, τ', s, g, ev, post⟩ => by
  obtain ⟨⟨xs, τ1⟩, e1, ev⟩ := bind_eq ev
  obtain ⟨z', e2, ev⟩ := bind_eq ev
  cases ev
  unfold mkTup at e2
  split at e2
  · rename_i hl
    cases e2
    refine ⟨F, τ, L, xs, _, s, g, e1, fun vs F1 H1 L1 Lr h1 s1 st1 => ⟨by rw [h1.length]; exact hl, fun p np => ?_⟩⟩
    have st2 := Step.newF (o := .tup vs) st1.good np
    refine post _ _ _ L1 Lr (.tup (.inl ⟨.inr rfl, upd_same⟩) (h1.stepQ st2 st1.good.ft)) (s1.stepQ st2 st1.good.ft) (st1.trans st2).andT
  · exact nomatch e2
theorem se_lst (h : SEs q X es Ds) : SE q X (.List es pos) (cN mkLst Ds) := peI (pe_lst h) fun σ H Q ⟨F, τ, L, z, τ', s, g, ev, post⟩ => by
  obtain ⟨⟨xs, τ1⟩, e1, ev⟩ := bind_eq ev
  obtain ⟨z', e2, ev⟩ := bind_eq ev
  cases ev
  unfold mkLst at e2
  split at e2
  · rename_i hl
    cases e2
    refine ⟨F, τ, L, xs, _, s, g, e1, fun vs F1 H1 L1 Lr h1 s1 st1 => ⟨by rw [h1.length]; exact hl, fun p np => ?_⟩⟩
    have st2 := Step.new (o := .lst vs) st1.good np
    have hA : At F1 (upd H1 p (.lst vs)) true p (.lst vs) Lr (p :: Lr) := by
      show (if true = true then _ else _)
      rw [if_pos rfl]
      exact ⟨upd_same, rfl⟩
    refine post _ _ _ L1 (p :: Lr) (.lst hA (h1.stepQ st2 st1.good.ft)) (s1.stepQ st2 st1.good.ft) ((st1.trans st2).andT.sub (Sub.of_perm ?_))
    rw [List.append_assoc]
    exact (List.perm_append_comm (l₁ := [p]) (l₂ := Lr)).append_left L1
  · exact nomatch e2
/-! calls of what is built in -/
theorem se_callB {x : Str} {id : String} {r : List V → Hp → VK → Prop} {g : List Val → Option Val} {p : Pos} (hc : CallR X (.builtin id) r) (hm : MN X.prog X.w X.K r g) (hmg : X.mg x = none) (hv : bootBuiltins x = some (.builtin id)) (ha : SOs q X (e :: es) Ds) (hg : Gl X x := by rfl)
    (hn : x ≠ "__name__" := by decide) (hdb : (x == ("__debug__" : Str)) = false := by decide)
    (he : starEach (e :: es) X.env = (false, eval e X.env) :: starEach es X.env := by rfl) (hpl : (backTo pos (starEach es X.env)).any (·.1) = false := by rfl) : SE q X (.Call (.Name x p) (e :: es) [] pos) (cN g Ds) :=
  peI (pe_callB hc hg hmg hv ha hn hdb he hpl) fun σ H Q ⟨F, τ, L, z, τ', s, gd, ev, post⟩ => by
    obtain ⟨⟨xs, τ1⟩, e1, ev⟩ := bind_eq ev
    obtain ⟨z', e2, ev⟩ := bind_eq ev
    cases ev
    refine ⟨F, τ, L, xs, _, s, gd, e1, fun vs F1 H1 L1 Lr h1 s1 st1 => ?_⟩
    exact hm F1 H1 vs xs Lr z Q st1.good.ft h1 e2 fun u F2 H2 M h2 st2 => post u F2 H2 L1 M h2 (s1.stepQ st2 st1.good.ft) (st1.op st2)
theorem se_callTy {x : Str} {T : String} {r : List V → Hp → VK → Prop} {g : List Val → Option Val} {p : Pos} (hc : CallR X (.type T) r) (hm : MN X.prog X.w X.K r g) (hmg : X.mg x = none) (hv : bootBuiltins x = some (.type T)) (ha : SOs q X (e :: es) Ds) (hg : Gl X x := by rfl)
    (hn : x ≠ "__name__" := by decide) (hdb : (x == ("__debug__" : Str)) = false := by decide)
    (he : starEach (e :: es) X.env = (false, eval e X.env) :: starEach es X.env := by rfl) (hpl : (backTo pos (starEach es X.env)).any (·.1) = false := by rfl) : SE q X (.Call (.Name x p) (e :: es) [] pos) (cN g Ds) :=
  peI (pe_callTy hc hg hmg hv ha hn hdb he hpl) fun σ H Q ⟨F, τ, L, z, τ', s, gd, ev, post⟩ => by
    obtain ⟨⟨xs, τ1⟩, e1, ev⟩ := bind_eq ev
    obtain ⟨z', e2, ev⟩ := bind_eq ev
    cases ev
    refine ⟨F, τ, L, xs, _, s, gd, e1, fun vs F1 H1 L1 Lr h1 s1 st1 => ?_⟩
    exact hm F1 H1 vs xs Lr z Q st1.good.ft h1 e2 fun u F2 H2 M h2 st2 => post u F2 H2 L1 M h2 (s1.stepQ st2 st1.good.ft) (st1.op st2)
end

/-! tests -/
def Val.bool? : Val → Option Bool
  | .bl b => some b
  | _ => none
theorem bool?_some {x : Val} {c : Bool} (h : x.bool? = some c) : x = .bl c := by
  cases x <;> first | (cases h; rfl) | exact nomatch h
def tst (D : Ev) : Tv := fun τ => (D τ).bind fun p => (p.1.bool?).bind fun c => some (c, p.2)
def andM (A B : Tv) : Tv := fun τ => (A τ).bind fun p => if p.1 = true then B p.2 else some (false, p.2)
def orM (A B : Tv) : Tv := fun τ => (A τ).bind fun p => if p.1 = true then some (true, p.2) else B p.2
def notM (A : Tv) : Tv := fun τ => (A τ).bind fun p => some (!p.1, p.2)
def andV (A B : Ev) : Ev := fun τ => (A τ).bind fun p => (p.1.bool?).bind fun c => if c = true then B p.2 else some (.bl false, p.2)
def orV (A B : Ev) : Ev := fun τ => (A τ).bind fun p => (p.1.bool?).bind fun c => if c = true then some (.bl true, p.2) else B p.2
def notV (A : Ev) : Ev := fun τ => (A τ).bind fun p => (p.1.bool?).bind fun c => some (.bl (!c), p.2)
def ifV (T : Tv) (A B : Ev) : Ev := fun τ => (T τ).bind fun p => if p.1 = true then A p.2 else B p.2
section
variable {P : Program} {w : World} {K : PySem.W.Frag}
theorem VR.bl_inv {F : Addr → Prop} {H : Hp} {v : V} {c : Bool} {L : List Addr} (h : VR P w K F H v (.bl c) L) : v = .bl c := by cases h; rfl
theorem VR.int_inv {F : Addr → Prop} {H : Hp} {v : V} {i : Int} {L : List Addr} (h : VR P w K F H v (.int i) L) : v = .int i := by cases h; rfl
theorem VR.str_inv {F : Addr → Prop} {H : Hp} {v : V} {z : Str} {L : List Addr} (h : VR P w K F H v (.str z) L) : v = .str z := by cases h; rfl
theorem VR.non_inv {F : Addr → Prop} {H : Hp} {v : V} {L : List Addr} (h : VR P w K F H v .non L) : v = .non := by cases h; rfl
theorem tB_ok (σ : S2) (H : Hp) (Q : Bool → Hp → Prop) (h : tT P w K q (tst D) σ H Q) : tB (tO P w K q D) σ H Q := by
  obtain ⟨F, τ, L, c, τ', s, g, ev, post⟩ := h
  obtain ⟨⟨x, τ1⟩, e1, ev⟩ := bind_eq ev
  obtain ⟨c', e2, ev⟩ := bind_eq ev
  cases ev
  obtain rfl := bool?_some e2
  exact ⟨F, τ, L, _, _, s, g, e1, fun v F' H' L' Lr h1 s1 st1 => ⟨c, h1.bl_inv, post F' H' L' s1 st1⟩⟩
end
theorem st_val (h : SO q X e D) (he : ∀ whole, isTrue e X.env whole = (do let v ← whole; standAt e.pos; holding [v] (truthy v)) := by intro _; rfl) : ST q X e (tst D) := ptI (pt_val h he) tB_ok
theorem st_cmp {op : CmpOp} {r : R2} {g : Val → Val → Option Val} (ho : OpR X (compareOp op) r) (hm : M2 X.prog X.w X.K r g) (ha : SO q X a Da) (hb : SO true X b Db) (hmk : behindInMarks op b = false) : ST q X (.Compare a [op] [b] pos) (tst (c2 g Da Db)) :=
  ptI (pt_cmpR ho ha hb hmk) fun σ H Q h => by
    obtain ⟨F, τ, L, c, τ', s, gd, ev, post⟩ := h
    obtain ⟨⟨x, τ1⟩, e1, ev⟩ := bind_eq ev
    obtain ⟨c', e2, ev⟩ := bind_eq ev
    cases ev
    obtain rfl := bool?_some e2
    refine tOp_ok hm σ H _ ⟨F, τ, L, _, _, s, gd, e1, fun v F' H' L' Lr h1 s1 st1 => ⟨c, h1.bl_inv, post F' H' L' s1 (st1.sub (Sub.left L' Lr))⟩⟩
theorem st_cmp' {op : CmpOp} {r : R2} {g : Val → Val → Option Val} (ho : OpR X (compareOp op) r) (hm : M2 X.prog X.w X.K r g) (ha : SE q X a Da) (hb : SO q X b Db) (hmk : behindInMarks op b = false) : ST q X (.Compare a [op] [b] pos) (tst (c2 g Da Db)) :=
  ptI (pt_cmpR ho ha hb hmk) fun σ H Q h => by
    obtain ⟨F, τ, L, c, τ', s, gd, ev, post⟩ := h
    obtain ⟨⟨x, τ1⟩, e1, ev⟩ := bind_eq ev
    obtain ⟨c', e2, ev⟩ := bind_eq ev
    cases ev
    obtain rfl := bool?_some e2
    refine tOp_ok' hm σ H _ ⟨F, τ, L, _, _, s, gd, e1, fun v F' H' L' Lr h1 s1 st1 => ⟨c, h1.bl_inv, post F' H' L' s1 (st1.sub (Sub.left L' Lr))⟩⟩
section
variable {rest : List Expr} {A B : Tv}
theorem sw_and1 (ha : ST q X a A) : SW q X (.BoolOp .And [a] pos) A := pw_and1 ha
theorem sw_or1 (ha : ST q X a A) : SW q X (.BoolOp .Or [a] pos) A := pw_or1 ha
theorem sw_and (ha : ST q X a A) (hb : SW q X (.BoolOp .And (b :: rest) pos) B) : SW q X (.BoolOp .And (a :: b :: rest) pos) (andM A B) :=
  pwI (pw_and ha hb) fun σ H Q ⟨F, τ, L, c, τ', s, g, ev, post⟩ => by
    obtain ⟨⟨d, τ1⟩, e1, ev⟩ := bind_eq ev
    refine ⟨F, τ, L, d, τ1, s, g, e1, fun F1 H1 L1 s1 st1 => ?_⟩
    cases d with
    | true =>
      simp only [if_true] at ev ⊢
      exact ⟨F1, τ1, L1, c, τ', s1, st1.good, ev, fun F2 H2 L2 s2 st2 => post F2 H2 L2 s2 (st1.trans st2).andS⟩
    | false =>
      simp only [Bool.false_eq_true, if_false] at ev ⊢
      cases ev
      exact post F1 H1 L1 s1 st1
theorem sw_or (ha : ST q X a A) (hb : SW q X (.BoolOp .Or (b :: rest) pos) B) : SW q X (.BoolOp .Or (a :: b :: rest) pos) (orM A B) :=
  pwI (pw_or ha hb) fun σ H Q ⟨F, τ, L, c, τ', s, g, ev, post⟩ => by
    obtain ⟨⟨d, τ1⟩, e1, ev⟩ := bind_eq ev
    refine ⟨F, τ, L, d, τ1, s, g, e1, fun F1 H1 L1 s1 st1 => ?_⟩
    cases d with
    | false =>
      simp only [Bool.false_eq_true, if_false] at ev ⊢
      exact ⟨F1, τ1, L1, c, τ', s1, st1.good, ev, fun F2 H2 L2 s2 st2 => post F2 H2 L2 s2 (st1.trans st2).andS⟩
    | true =>
      simp only [if_true] at ev ⊢
      cases ev
      exact post F1 H1 L1 s1 st1
theorem st_not (ha : ST q X a A) : ST q X (.UnaryOp .Not a pos) (notM A) :=
  ptI (pt_not ha) fun σ H Q ⟨F, τ, L, c, τ', s, g, ev, post⟩ => by
    obtain ⟨⟨d, τ1⟩, e1, ev⟩ := bind_eq ev
    cases ev
    exact ⟨F, τ, L, d, _, s, g, e1, post⟩
theorem se_ifx {c : Expr} (hc : ST q X c A) (ha : SE q X a Da) (hb : SE q X b Db) : SE q X (.IfExp c a b pos) (ifV A Da Db) :=
  peI (pe_ifExp hc ha hb) fun σ H Q ⟨F, τ, L, x, τ', s, g, ev, post⟩ => by
    obtain ⟨⟨d, τ1⟩, e1, ev⟩ := bind_eq ev
    refine ⟨F, τ, L, d, τ1, s, g, e1, fun F1 H1 L1 s1 st1 => ?_⟩
    cases d with
    | true =>
      simp only [if_true] at ev ⊢
      exact ⟨F1, τ1, L1, x, τ', s1, st1.good, ev, fun v F2 H2 L2 Lr h2 s2 st2 => post v F2 H2 L2 Lr h2 s2 (st1.trans st2).andS⟩
    | false =>
      simp only [Bool.false_eq_true, if_false] at ev ⊢
      exact ⟨F1, τ1, L1, x, τ', s1, st1.good, ev, fun v F2 H2 L2 Lr h2 s2 st2 => post v F2 H2 L2 Lr h2 s2 (st1.trans st2).andS⟩
theorem se_one {op : BoolOp} (h : SE q X a Da) : SE q X (.BoolOp op [a] pos) Da := pe_one h
theorem se_and (ha : SO q X a Da) (hb : SE q X (.BoolOp .And (b :: rest) pos) Db) : SE q X (.BoolOp .And (a :: b :: rest) pos) (andV Da Db) :=
  peI (pe_and ha hb) fun σ H Q ⟨F, τ, L, x, τ', s, g, ev, post⟩ => by
    obtain ⟨⟨y, τ1⟩, e1, ev⟩ := bind_eq ev
    obtain ⟨d, e2, ev⟩ := bind_eq ev
    obtain rfl := bool?_some e2
    refine ⟨F, τ, L, _, τ1, s, g, e1, fun v F1 H1 L1 Lr1 h1 s1 st1 => ⟨d, h1.bl_inv, ?_⟩⟩
    cases d with
    | true =>
      simp only [if_true] at ev ⊢
      exact ⟨F1, τ1, L1, x, τ', s1, st1.good, ev, fun v F2 H2 L2 Lr h2 s2 st2 => post v F2 H2 L2 Lr h2 s2 (st1.trans st2).andS⟩
    | false =>
      simp only [Bool.false_eq_true, if_false] at ev ⊢
      cases ev
      exact post _ F1 H1 L1 [] (.bl false) s1 (by rw [List.append_nil]; exact st1)
theorem se_or (ha : SO q X a Da) (hb : SE q X (.BoolOp .Or (b :: rest) pos) Db) : SE q X (.BoolOp .Or (a :: b :: rest) pos) (orV Da Db) :=
  peI (pe_or ha hb) fun σ H Q ⟨F, τ, L, x, τ', s, g, ev, post⟩ => by
    obtain ⟨⟨y, τ1⟩, e1, ev⟩ := bind_eq ev
    obtain ⟨d, e2, ev⟩ := bind_eq ev
    obtain rfl := bool?_some e2
    refine ⟨F, τ, L, _, τ1, s, g, e1, fun v F1 H1 L1 Lr1 h1 s1 st1 => ⟨d, h1.bl_inv, ?_⟩⟩
    cases d with
    | false =>
      simp only [Bool.false_eq_true, if_false] at ev ⊢
      exact ⟨F1, τ1, L1, x, τ', s1, st1.good, ev, fun v F2 H2 L2 Lr h2 s2 st2 => post v F2 H2 L2 Lr h2 s2 (st1.trans st2).andS⟩
    | true =>
      simp only [if_true] at ev ⊢
      cases ev
      exact post _ F1 H1 L1 [] (.bl true) s1 (by rw [List.append_nil]; exact st1)
theorem se_not (ha : SO q X a Da) : SE q X (.UnaryOp .Not a pos) (notV Da) :=
  peI (pe_not ha) fun σ H Q ⟨F, τ, L, x, τ', s, g, ev, post⟩ => by
    obtain ⟨⟨y, τ1⟩, e1, ev⟩ := bind_eq ev
    obtain ⟨d, e2, ev⟩ := bind_eq ev
    obtain rfl := bool?_some e2
    cases ev
    exact ⟨F, τ, L, _, _, s, g, e1, fun v F1 H1 L1 Lr1 h1 s1 st1 => ⟨d, h1.bl_inv, post _ F1 H1 L1 [] (.bl _) s1 (by rw [List.append_nil]; exact st1)⟩⟩
end
end
end MV
end

section
set_option maxHeartbeats 4000000
/-! statements, targets, defs by content -/
namespace MV
open PySem PySem.Spec PyProof.Rows L2

inductive Fl where
  | next | brk | cont
  | ret (v : Val)
abbrev Sv := Sl → Option (Fl × Sl)
/-- the first n slots stand -/
def Keep (n : Nat) (σ σ' : S2) : Prop := ∀ j, j < n → σ'[j]? = σ[j]?
theorem Keep.refl {n : Nat} {σ : S2} : Keep n σ σ := fun _ _ => rfl
theorem Keep.trans {n : Nat} {a b c : S2} (h : Keep n a b) (g : Keep n b c) : Keep n a c := fun j hj => (g j hj).trans (h j hj)

section
variable (P : Program) (w : World) (K : PySem.W.Frag) (n : Nat)
/-- what is wanted at a block's end -/
def EndP (D : Ends) (σ : S2) (F : Addr → Prop) (H : Hp) (L : List Addr) (fl : Fl) (τ' : Sl) : Prop :=
  match fl with
  | .next => ∀ σ' F' H' L', SR P w K F' H' σ' τ' L' → Step false F H L F' H' L' → Keep n σ σ' → D.nx σ' H'
  | .brk => ∀ σ' F' H' L', SR P w K F' H' σ' τ' L' → Step false F H L F' H' L' → Keep n σ σ' → D.bk σ' H'
  | .cont => ∀ σ' F' H' L', SR P w K F' H' σ' τ' L' → Step false F H L F' H' L' → Keep n σ σ' → D.ct σ' H'
  | .ret x => ∀ v σ' F' H' L' Lr, VR P w K F' H' v x Lr → SR P w K F' H' σ' τ' L' → Step false F H L F' H' (L' ++ Lr) → Keep n σ σ' → D.rt v H'
def tSt (B : Sv) : TS := fun D σ H => ∃ F τ L fl τ', SR P w K F H σ τ L ∧ Good F H L ∧ B τ = some (fl, τ') ∧ EndP P w K n D σ F H L fl τ'
end
section
variable {P : Program} {w : World} {K : PySem.W.Frag} {n : Nat}
theorem EndP.trans {D : Ends} {σ σ1 : S2} {F F1 : Addr → Prop} {H H1 : Hp} {L L1 : List Addr} {fl : Fl} {τ' : Sl} {q : Bool} (h : EndP P w K n D σ F H L fl τ') (st : Step q F H L F1 H1 L1) (k : Keep n σ σ1) : EndP P w K n D σ1 F1 H1 L1 fl τ' := by
  cases fl with
  | next => exact fun σ' F' H' L' s t k' => h σ' F' H' L' s (st.weak.trans t) (k.trans k')
  | brk => exact fun σ' F' H' L' s t k' => h σ' F' H' L' s (st.weak.trans t) (k.trans k')
  | cont => exact fun σ' F' H' L' s t k' => h σ' F' H' L' s (st.weak.trans t) (k.trans k')
  | ret x => exact fun v σ' F' H' L' Lr hv s t k' => h v σ' F' H' L' Lr hv s (st.weak.trans t) (k.trans k')
end
abbrev SS (n : Nat) (X : Cx) (s : Stmt) (B : Sv) : Prop := PS X s (tSt X.prog X.w X.K n B)
abbrev SSs (n : Nat) (X : Cx) (s : List Stmt) (B : Sv) : Prop := PSs X s (tSt X.prog X.w X.K n B)

def nextM : Sv := fun τ => some (.next, τ)
def failM : Sv := fun _ => none
def seqM (A B : Sv) : Sv := fun τ => (A τ).bind fun p => match p.1 with
  | .next => B p.2
  | f => some (f, p.2)
def ifM (T : Tv) (A B : Sv) : Sv := fun τ => (T τ).bind fun p => if p.1 = true then A p.2 else B p.2
def retM (D : Ev) : Sv := fun τ => (D τ).bind fun p => some (.ret p.1, p.2)
def dropM (D : Ev) : Sv := fun τ => (D τ).bind fun p => some (.next, p.2)
def brkM : Sv := fun τ => some (.brk, τ)
def contM : Sv := fun τ => some (.cont, τ)
def setM (i : Nat) (D : Ev) : Sv := fun τ => (D τ).bind fun p => some (.next, p.2.set i (some p.1))

section
variable {X : Cx} {n : Nat} {q : Bool} {st : Stmt} {rest : List Stmt} {A B : Sv} {e : Expr} {D : Ev} {pos : Pos}
theorem sss_nil : SSs n X [] nextM := pssI pss_nil fun D σ H ⟨F, τ, L, fl, τ', s, g, ev, post⟩ => by
  cases ev
  exact post σ F H L s (Step.refl g).weak .refl
theorem sss_one (h : SS n X st A) : SSs n X [st] A := pss_one h
theorem sss_cons (h : SS n X st A) (r : SSs n X rest B) : SSs n X (st :: rest) (seqM A B) :=
  pssI (pss_cons h r) fun D σ H ⟨F, τ, L, fl, τ', s, g, ev, post⟩ => by
    obtain ⟨⟨f1, τ1⟩, e1, ev⟩ := bind_eq ev
    refine ⟨F, τ, L, f1, τ1, s, g, e1, ?_⟩
    cases f1 with
    | next => exact fun σ1 F1 H1 L1 s1 st1 k1 => ⟨F1, τ1, L1, fl, τ', s1, st1.good, ev, post.trans st1 k1⟩
    | brk => cases ev; exact post
    | cont => cases ev; exact post
    | ret x => cases ev; exact post
theorem ss_never : SS n X st failM := psI ps_never fun D σ H ⟨F, τ, L, fl, τ', s, g, ev, post⟩ => nomatch ev
theorem sss_never {sts : List Stmt} : SSs n X sts failM := pssI pss_never fun D σ H ⟨F, τ, L, fl, τ', s, g, ev, post⟩ => nomatch ev
theorem ss_pass : SS n X (.Pass pos) nextM := psI ps_pass fun D σ H ⟨F, τ, L, fl, τ', s, g, ev, post⟩ => by
  cases ev
  exact post σ F H L s (Step.refl g).weak .refl
theorem ss_break : SS n X (.Break pos) brkM := psI ps_break fun D σ H ⟨F, τ, L, fl, τ', s, g, ev, post⟩ => by
  cases ev
  exact post σ F H L s (Step.refl g).weak .refl
theorem ss_continue : SS n X (.Continue pos) contM := psI ps_continue fun D σ H ⟨F, τ, L, fl, τ', s, g, ev, post⟩ => by
  cases ev
  exact post σ F H L s (Step.refl g).weak .refl
theorem ss_if {c : Expr} {a b : List Stmt} {T : Tv} (hc : ST q X c T) (ha : SSs n X a A) (hb : SSs n X b B) : SS n X (.If c a b pos) (ifM T A B) :=
  psI (ps_if hc ha hb) fun D σ H ⟨F, τ, L, fl, τ', s, g, ev, post⟩ => by
    obtain ⟨⟨d, τ1⟩, e1, ev⟩ := bind_eq ev
    refine ⟨F, τ, L, d, τ1, s, g, e1, fun F1 H1 L1 s1 st1 => ?_⟩
    cases d with
    | true =>
      simp only [if_true] at ev ⊢
      exact ⟨F1, τ1, L1, fl, τ', s1, st1.good, ev, post.trans st1 .refl⟩
    | false =>
      simp only [Bool.false_eq_true, if_false] at ev ⊢
      exact ⟨F1, τ1, L1, fl, τ', s1, st1.good, ev, post.trans st1 .refl⟩
theorem ss_ret (he : SE q X e D) : SS n X (.Return (some e) pos) (retM D) :=
  psI (ps_ret he) fun D σ H ⟨F, τ, L, fl, τ', s, g, ev, post⟩ => by
    obtain ⟨⟨x, τ1⟩, e1, ev⟩ := bind_eq ev
    cases ev
    exact ⟨F, τ, L, x, _, s, g, e1, fun v F1 H1 L1 Lr h1 s1 st1 => post v σ F1 H1 L1 Lr h1 s1 st1.weak .refl⟩
theorem ss_expr (he : SO q X e D) (hs : swapsWith e none pos.line X.env = Pure.pure false := by rfl) : SS n X (.Expr e pos) (dropM D) :=
  psI (ps_expr he hs) fun D σ H ⟨F, τ, L, fl, τ', s, g, ev, post⟩ => by
    obtain ⟨⟨x, τ1⟩, e1, ev⟩ := bind_eq ev
    cases ev
    exact ⟨F, τ, L, x, _, s, g, e1, fun v F1 H1 L1 Lr h1 s1 st1 => post σ F1 H1 L1 s1 st1.weak .refl⟩
theorem Keep.set {i : Nat} {σ : S2} {o : Option V} (h : n ≤ i) : Keep n σ (σ.set i o) := fun j hj => by
  rw [List.getElem?_set_ne (by omega)]
theorem ss_set {i : Nat} {x : Str} {pos' : Pos} (hN : X.N.Nodup) (hni : n ≤ i) (he : SE q X e D) (hi : X.N[i]? = some x := by rfl) (hx : Loc X.env.scope x := by first | exact Or.inl rfl | exact Or.inr rfl) (hs : swapsWith e (some (.Name x pos')) pos.line X.env = Pure.pure false := by rfl)
    (hf : X.fn x = true ∨ X.env.scope.names.lookup x = some .local := by first | exact .inl rfl | exact .inr rfl) : SS n X (.Assign [.Name x pos'] e pos) (setM i D) :=
  psI (ps_set hN hi hx he hs hf) fun D σ H ⟨F, τ, L, fl, τ', s, g, ev, post⟩ => by
    obtain ⟨⟨y, τ1⟩, e1, ev⟩ := bind_eq ev
    cases ev
    refine ⟨F, τ, L, y, _, s, g, e1, fun v F1 H1 L1 Lr h1 s1 st1 => ?_⟩
    obtain ⟨L2, s2, sb⟩ := s1.put (i := i) h1
    exact post _ F1 H1 L2 s2 (st1.sub sb).weak (Keep.set hni)

/-! targets -/
abbrev Tg := Val → Sl → Option Sl
abbrev Tgs := List Val → Sl → Option Sl
/-- own: the slots that are stored to -/
def KeepO (own : List Nat) (σ σ' : S2) : Prop := σ'.length = σ.length ∧ ∀ j, j ∉ own → σ'[j]? = σ[j]?
section
variable (P : Program) (w : World) (K : PySem.W.Frag) (own : List Nat)
def tG (T : Tg) : TG := fun v σ H Q => ∃ F τ L x Lx τ', SR P w K F H σ τ L ∧ Good F H (L ++ Lx) ∧ VR P w K F H v x Lx ∧ T x τ = some τ' ∧
  ∀ σ' L', SR P w K F H σ' τ' L' → Sub L' (L ++ Lx) → KeepO own σ σ' → Q σ' H
def tGs (T : Tgs) : TGs := fun vs σ H Q => ∃ F τ L xs Lx τ', SR P w K F H σ τ L ∧ Good F H (L ++ Lx) ∧ VRs P w K F H vs xs Lx ∧ T xs τ = some τ' ∧
  ∀ σ' L', SR P w K F H σ' τ' L' → Sub L' (L ++ Lx) → KeepO own σ σ' → Q σ' H
end
abbrev SG (own : List Nat) (X : Cx) (tg : Expr) (T : Tg) : Prop := PG X tg (tG X.prog X.w X.K own T)
abbrev SGs (own : List Nat) (X : Cx) (tg : List Expr) (T : Tgs) : Prop := PGs X tg (tGs X.prog X.w X.K own T)
theorem pgI {tg : Expr} {t t' : TG} (h : PG X tg t) (i : ∀ v σ H Q, t' v σ H Q → t v σ H Q) : PG X tg t' := ⟨fun pins s σ H v u Q I r hw => h.run pins s σ H v u Q I r (i v σ H Q hw)⟩
theorem pgsI {tg : List Expr} {t t' : TGs} (h : PGs X tg t) (i : ∀ v σ H Q, t' v σ H Q → t v σ H Q) : PGs X tg t' := ⟨fun pins s σ H v u Q I r hw => h.run pins s σ H v u Q I r (i v σ H Q hw)⟩
def nameT (i : Nat) : Tg := fun x τ => some (τ.set i (some x))
def nilT : Tgs := fun xs τ => if xs.isEmpty = true then some τ else none
def consT (T : Tg) (U : Tgs) : Tgs := fun xs τ => match xs with
  | x :: r => (T x τ).bind fun τ1 => U r τ1
  | [] => none
def tupT (n : Nat) (U : Tgs) : Tg := fun x τ => match x with
  | .tup xs => if xs.length = n then U xs τ else none
  | _ => none
theorem KeepO.refl {own : List Nat} {σ : S2} : KeepO own σ σ := ⟨rfl, fun _ _ => rfl⟩
theorem KeepO.trans {own own' : List Nat} {a b c : S2} (h : KeepO own a b) (g : KeepO own' b c) : KeepO (own ++ own') a c :=
  ⟨g.1.trans h.1, fun j hj => by
    rw [List.mem_append, not_or] at hj
    exact (g.2 j hj.2).trans (h.2 j hj.1)⟩
theorem KeepO.keep {own : List Nat} {a b : S2} (h : KeepO own a b) (hn : ∀ j ∈ own, n ≤ j) : Keep n a b := fun j hj => h.2 j fun z => absurd (hn j z) (by omega)
theorem sg_name {i : Nat} {x : Str} (hN : X.N.Nodup) (hi : X.N[i]? = some x := by rfl) (hx : Loc X.env.scope x := by first | exact Or.inl rfl | exact Or.inr rfl) (hf : X.fn x = true ∨ X.env.scope.names.lookup x = some .local := by first | exact .inl rfl | exact .inr rfl) : SG [i] X (.Name x pos) (nameT i) :=
  pgI (pg_name hN hi hx hf) fun v σ H Q ⟨F, τ, L, x, Lx, τ', s, g, hv, ev, post⟩ => by
    cases ev
    obtain ⟨L2, s2, sb⟩ := s.put (i := i) hv
    exact post _ L2 s2 sb ⟨List.length_set, fun j hj => List.getElem?_set_ne fun z => hj (List.mem_singleton.mpr z.symm)⟩
theorem sgs_nil : SGs [] X [] nilT := pgsI pgs_nil fun vs σ H Q ⟨F, τ, L, xs, Lx, τ', s, g, hv, ev, post⟩ => by
  cases xs with
  | nil =>
    cases ev
    cases hv
    exact ⟨rfl, post σ L s (Sub.left L []) .refl⟩
  | cons x r => exact nomatch ev
theorem sgs_cons {es : List Expr} {T : Tg} {U : Tgs} {own own' : List Nat} (h1 : SG own X e T) (h2 : SGs own' X es U) (hs : (assignEach (e :: es) X.env).map (·.2) = assign e X.env :: (assignEach es X.env).map (·.2) := by rfl) : SGs (own ++ own') X (e :: es) (consT T U) :=
  pgsI (pgs_cons h1 h2 hs) fun vs σ H Q ⟨F, τ, L, xs, Lx, τ', s, g, hv, ev, post⟩ => by
    cases xs with
    | nil => exact nomatch ev
    | cons x r =>
      cases hv with
      | @cons v _ L1 vr _ L2 h t =>
        obtain ⟨τ1, e1, ev⟩ := bind_eq ev
        have p3 : (L ++ (L1 ++ L2)).Perm ((L ++ L1) ++ L2) := by rw [List.append_assoc]
        have g2 : Good F H ((L ++ L1) ++ L2) := g.sub (Sub.of_perm p3.symm)
        refine ⟨v, vr, rfl, F, τ, L, x, L1, τ1, s, g2.sub (Sub.left _ _), h, e1, fun σ1 La s1 sb1 k1 => ?_⟩
        refine ⟨F, τ1, La, r, L2, τ', s1, g2.sub (sb1.app (Sub.refl L2)), t, ev, fun σ2 Lb s2 sb2 k2 => post σ2 Lb s2 (sb2.trans ((sb1.app (Sub.refl L2)).trans (Sub.of_perm p3.symm))) (k1.trans k2)⟩
theorem sg_tup {es : List Expr} {k m : Nat} {U : Tgs} {own : List Nat} (hc : X.calm = true) (h : SGs own X es U) (hn : (assignEach es X.env).length = m := by rfl) (hst : (assignEach es X.env).findIdx? (·.1) = none := by rfl) : SG own X (.Tuple es k pos) (tupT m U) :=
  pgI (pg_tup hc h hn hst) fun v σ H Q ⟨F, τ, L, x, Lx, τ', s, g, hv, ev, post⟩ => by
    cases hv with
    | @tup a vs xs _ ha hvs =>
      have ev' : (if xs.length = m then U xs τ else none) = some τ' := ev
      split at ev'
      · rename_i hl
        exact ⟨a, vs, rfl, ha.sq, by rw [hvs.length]; exact hl, F, τ, L, xs, Lx, τ', s, g, hvs, ev', post⟩
      · exact nomatch ev'
    | _ => exact nomatch ev
def asgM (T : Tg) (D : Ev) : Sv := fun τ => (D τ).bind fun p => (T p.1 p.2).bind fun τ' => some (.next, τ')
theorem ss_asg {tg : Expr} {T : Tg} {own : List Nat} (hn : ∀ j ∈ own, n ≤ j) (he : SE q X e D) (hg : SG own X tg T) (hs : swapsWithSole [tg] e pos.line X.env = Pure.pure false := by rfl) (hw : swappedStores [tg] e X.env = Pure.pure none := by rfl)
    (h1 : (assignEach [tg] X.env).map (·.2) = [assign tg X.env] := by rfl) : SS n X (.Assign [tg] e pos) (asgM T D) :=
  psI (ps_asg he hg hs hw h1) fun D σ H ⟨F, τ, L, fl, τ', s, g, ev, post⟩ => by
    obtain ⟨⟨y, τ1⟩, e1, ev⟩ := bind_eq ev
    obtain ⟨τ2, e2, ev⟩ := bind_eq ev
    cases ev
    refine ⟨F, τ, L, y, τ1, s, g, e1, fun v F1 H1 L1 Lr h1 s1 st1 => ?_⟩
    exact ⟨F1, τ1, L1, y, Lr, _, s1, st1.good, h1, e2, fun σ2 L2 s2 sb k => post σ2 F1 H1 L2 s2 (st1.sub sb).weak (k.keep hn)⟩
/-- a, b = e1, e2 -/
def parM (i j : Nat) (Ds : Evs) : Sv := fun τ => (Ds τ).bind fun p => match p.1 with
  | [x, y] => some (.next, (p.2.set i (some x)).set j (some y))
  | _ => none
theorem ss_par {i j : Nat} {x y : Str} {a b : Expr} {Ds : Evs} {px py pt : Pos} {kt k2 : Nat} {pt2 : Pos} (hc : X.calm = true) (hN : X.N.Nodup) (hij : i ≠ j) (hni : n ≤ i) (hnj : n ≤ j) (ha : SEs q X [a, b] Ds) (hi : X.N[i]? = some x := by rfl) (hj : X.N[j]? = some y := by rfl)
    (hx : X.env.scope.names.lookup x = some .local := by rfl) (hy : X.env.scope.names.lookup y = some .local := by rfl)
    (hw : swappedStores [.Tuple [.Name x px, .Name y py] kt pt] (.Tuple [a, b] k2 pt2) X.env = Pure.pure (some [x, y]) := by rfl)
    (hs : swapsWithSole [.Tuple [.Name x px, .Name y py] kt pt] (.Tuple [a, b] k2 pt2) pos.line X.env = Pure.pure false := by rfl) :
    SS n X (.Assign [.Tuple [.Name x px, .Name y py] kt pt] (.Tuple [a, b] k2 pt2) pos) (parM i j Ds) :=
  psI (ps_par hc hN hi hj hij hx hy ha hw hs) fun D σ H ⟨F, τ, L, fl, τ', s, g, ev, post⟩ => by
    obtain ⟨⟨xs, τ1⟩, e1, ev⟩ := bind_eq ev
    match xs, ev, e1 with
    | [x1, x2], ev, e1 =>
      cases ev
      refine ⟨F, τ, L, [x1, x2], τ1, s, g, e1, fun vs F1 H1 L1 Lr h1 s1 st1 => ?_⟩
      cases h1 with
      | @cons v1 _ La vr _ Lb h1 t =>
        cases t with
        | @cons v2 _ Lb vr2 _ Lc h2 t2 =>
          cases t2
          refine ⟨v1, v2, rfl, ?_⟩
          obtain ⟨L2, s2, sb⟩ := s1.put (i := i) h1
          obtain ⟨L3, s3, sb3⟩ := s2.put (i := j) h2
          refine post _ F1 H1 L3 s3 (st1.sub ?_).weak ((Keep.set hni).trans (Keep.set hnj))
          refine sb3.trans ((sb.app (Sub.refl Lb)).trans ?_)
          rw [List.append_nil, List.append_assoc]
          exact Sub.refl _
    | [], ev, _ => exact nomatch ev
    | [_], ev, _ => exact nomatch ev
    | _ :: _ :: _ :: _, ev, _ => exact nomatch ev

/-! while -/
def whileN : Nat → Tv → Sv → Sv
  | 0, _, _ => fun _ => none
  | n + 1, T, B => fun τ => (T τ).bind fun p => if p.1 = true then (B p.2).bind fun r => match r.1 with
    | .next => whileN n T B r.2
    | .cont => whileN n T B r.2
    | .brk => some (.next, r.2)
    | .ret v => some (.ret v, r.2)
    else some (.next, p.2)
open Classical in
noncomputable def whileM (T : Tv) (B : Sv) : Sv := fun τ => if h : ∃ r, ∃ n, whileN n T B τ = some r then some (choose h) else none
theorem whileN_succ {T : Tv} {B : Sv} : ∀ {m : Nat} {τ : Sl} {r : Fl × Sl}, whileN m T B τ = some r → whileN (m + 1) T B τ = some r
  | 0, _, _, h => nomatch h
  | m + 1, τ, r, h => by
    unfold whileN at h ⊢
    obtain ⟨⟨c, τ1⟩, e1, h⟩ := bind_eq h
    rw [e1, Option.bind_some]
    cases c with
    | false => exact h
    | true =>
      simp only [if_true] at h ⊢
      obtain ⟨⟨f, τ2⟩, e2, h⟩ := bind_eq h
      rw [e2, Option.bind_some]
      cases f with
      | next => exact whileN_succ (m := m) h
      | cont => exact whileN_succ (m := m) h
      | brk => exact h
      | ret v => exact h
theorem whileN_le {T : Tv} {B : Sv} {m k : Nat} {τ : Sl} {r : Fl × Sl} (h : whileN m T B τ = some r) (hk : m ≤ k) : whileN k T B τ = some r := by
  induction hk with
  | refl => exact h
  | step _ ih => exact whileN_succ ih
theorem whileM_of {T : Tv} {B : Sv} {m : Nat} {τ : Sl} {r : Fl × Sl} (h : whileN m T B τ = some r) : whileM T B τ = some r := by
  have hx : ∃ r, ∃ n, whileN n T B τ = some r := ⟨r, m, h⟩
  unfold whileM
  rw [dif_pos hx]
  obtain ⟨k, hk⟩ := Classical.choose_spec hx
  have e1 := whileN_le h (Nat.le_max_left m k)
  have e2 := whileN_le hk (Nat.le_max_right m k)
  rw [e1] at e2
  exact e2.symm
theorem whileM_some {T : Tv} {B : Sv} {τ : Sl} {r : Fl × Sl} (h : whileM T B τ = some r) : ∃ m, whileN m T B τ = some r := by
  unfold whileM at h
  split at h
  · rename_i hx
    obtain ⟨k, hk⟩ := Classical.choose_spec hx
    exact ⟨k, hk.trans h⟩
  · exact nomatch h
/-- one turn -/
theorem whileM_eq (T : Tv) (B : Sv) (τ : Sl) : whileM T B τ = (T τ).bind fun p => if p.1 = true then (B p.2).bind fun r => match r.1 with
    | .next => whileM T B r.2
    | .cont => whileM T B r.2
    | .brk => some (.next, r.2)
    | .ret v => some (.ret v, r.2)
    else some (.next, p.2) := by
  refine Option.ext fun r => ⟨fun h => ?_, fun h => ?_⟩
  · obtain ⟨m, h⟩ := whileM_some h
    cases m with
    | zero => exact nomatch h
    | succ m =>
      unfold whileN at h
      obtain ⟨⟨c, τ1⟩, e1, h⟩ := bind_eq h
      rw [e1, Option.bind_some]
      cases c with
      | false => exact h
      | true =>
        simp only [if_true] at h ⊢
        obtain ⟨⟨f, τ2⟩, e2, h⟩ := bind_eq h
        rw [e2, Option.bind_some]
        cases f with
        | next => exact whileM_of h
        | cont => exact whileM_of h
        | brk => exact h
        | ret v => exact h
  · obtain ⟨⟨c, τ1⟩, e1, h⟩ := bind_eq h
    cases c with
    | false => exact whileM_of (m := 1) (by unfold whileN; rw [e1, Option.bind_some]; exact h)
    | true =>
      simp only [if_true] at h
      obtain ⟨⟨f, τ2⟩, e2, h⟩ := bind_eq h
      cases f with
      | next =>
        obtain ⟨m, hm⟩ := whileM_some h
        exact whileM_of (m := m + 1) (by unfold whileN; rw [e1, Option.bind_some]; simp only [if_true]; rw [e2, Option.bind_some]; exact hm)
      | cont =>
        obtain ⟨m, hm⟩ := whileM_some h
        exact whileM_of (m := m + 1) (by unfold whileN; rw [e1, Option.bind_some]; simp only [if_true]; rw [e2, Option.bind_some]; exact hm)
      | brk => exact whileM_of (m := 1) (by unfold whileN; rw [e1, Option.bind_some]; simp only [if_true]; rw [e2, Option.bind_some]; exact h)
      | ret v => exact whileM_of (m := 1) (by unfold whileN; rw [e1, Option.bind_some]; simp only [if_true]; rw [e2, Option.bind_some]; exact h)
theorem ss_while {c : Expr} {body : List Stmt} {T : Tv} (hp : PassesOwn (model X.prog X.w) X.A X.env X.xe) (hc : ST q X c T) (hb : SSs n X body B) : SS n X (.While c body [] pos) (whileM T B) :=
  psI (ps_while hp hc hb) fun D σ H ⟨F, τ, L, fl, τe, s, g, ev, post⟩ => by
    obtain ⟨m0, h0⟩ := whileM_some ev
    refine ⟨fun m σ' H' => ∃ F' τ' L', SR X.prog X.w X.K F' H' σ' τ' L' ∧ Good F' H' L' ∧ whileN m T B τ' = some (fl, τe) ∧ EndP X.prog X.w X.K n D σ' F' H' L' fl τe, ⟨m0, F, τ, L, s, g, h0, post⟩, ?_⟩
    rintro m σ1 H1 ⟨F1, τ1, L1, s1, g1, h1, post1⟩
    cases m with
    | zero => exact nomatch h1
    | succ m =>
      unfold whileN at h1
      obtain ⟨⟨d, τ2⟩, e2, h1⟩ := bind_eq h1
      refine ⟨F1, τ1, L1, d, τ2, s1, g1, e2, fun F2 H2 L2 s2 st2 => ?_⟩
      have post2 := post1.trans st2 .refl
      cases d with
      | false =>
        simp only [Bool.false_eq_true, if_false] at h1 ⊢
        cases h1
        exact post2 σ1 F2 H2 L2 s2 (Step.refl st2.good).weak .refl
      | true =>
        simp only [if_true] at h1 ⊢
        obtain ⟨⟨f, τ3⟩, e3, h1⟩ := bind_eq h1
        refine ⟨fun σ' H' => ∃ F' τ' L', SR X.prog X.w X.K F' H' σ' τ' L' ∧ Good F' H' L' ∧ whileN m T B τ' = some (fl, τe) ∧ EndP X.prog X.w X.K n D σ' F' H' L' fl τe, fun σ' H' h => ⟨m, Nat.lt_succ_self m, h⟩, F2, τ2, L2, f, τ3, s2, st2.good, e3, ?_⟩
        cases f with
        | next => exact fun σ3 F3 H3 L3 s3 st3 k3 => ⟨F3, τ3, L3, s3, st3.good, h1, post2.trans st3 k3⟩
        | cont => exact fun σ3 F3 H3 L3 s3 st3 k3 => ⟨F3, τ3, L3, s3, st3.good, h1, post2.trans st3 k3⟩
        | brk => cases h1; exact post2
        | ret v => cases h1; exact post2
end

/-! defs -/
section
variable (P : Program) (w : World) (K : PySem.W.Frag)
/-- the promise of a def that answers f of its arguments, all of them left as they are -/
def spM (n : Nat) (f : List Val → Option Val) : Sp := fun vs H Q _ => ∃ F xs r, (∀ a, F a → H a ≠ none) ∧ VRs P w K F H vs xs [] ∧ xs.length = n ∧ f xs = some r ∧
  ∀ v F' H' Lr, VR P w K F' H' v r Lr → Step true F H [] F' H' Lr → Q v H'
/-- .. of a def that changes what its first argument owns -/
def spIO (n : Nat) (f : List Val → Option (Val × Val)) : Sp := fun vs H Q _ => ∃ F v0 vs' y xs L0 r y', vs = v0 :: vs' ∧ Good F H L0 ∧ VR P w K F H v0 y L0 ∧ VRs P w K F H vs' xs [] ∧ xs.length + 1 = n ∧ f (y :: xs) = some (r, y') ∧
  ∀ v F' H' Lr L0', VR P w K F' H' v r Lr → VR P w K F' H' v0 y' L0' → Step false F H L0 F' H' (L0' ++ Lr) → Q v H'
end
def fnM (m : Nat) (B : Sv) (xs : List Val) : Option Val := (B (xs.map some ++ List.replicate m none)).bind fun p => match p.1 with
  | .ret r => some r
  | .next => some .non
  | _ => none
def fnIO (m : Nat) (B : Sv) (xs : List Val) : Option (Val × Val) := (B (xs.map some ++ List.replicate m none)).bind fun p => (p.2[0]?).bind fun o => o.bind fun y => match p.1 with
  | .ret r => some (r, y)
  | .next => some (.non, y)
  | _ => none
section
variable {P : Program} {w : World} {K : PySem.W.Frag} {mg : Str → Option Value} {base : Heap}
theorem SR0.start {F : Addr → Prop} {H : Hp} : ∀ {vs : List V} {xs : List Val} {L : List Addr} (m : Nat), VRs P w K F H vs xs L → SR0 P w K F H (vs.map some ++ List.replicate m none) (xs.map some ++ List.replicate m none) L
  | _, _, _, m, .nil => by
    induction m with
    | zero => exact .nil
    | succ m ih => exact .skip ih
  | _, _, _, m, .cons h t => .cons h (SR0.start m t)
theorem SR0.fill {F : Addr → Prop} {H : Hp} {v : V} {y : Val} {Ly : List Addr} (fz : VR P w K F H v y Ly) : ∀ {σ : S2} {τ : Sl} {L : List Addr} {i : Nat}, SR0 P w K F H σ (τ.set i none) L → σ[i]? = some (some v) → i < τ.length → ∃ L2, SR0 P w K F H σ (τ.set i (some y)) L2 ∧ L2.Perm (L ++ Ly)
  | σ, [], L, i, h1, h2, h3 => absurd h3 (Nat.not_lt_zero _)
  | σ, o :: τ, L, 0, h1, h2, h3 => by
    rw [List.set_cons_zero] at h1 ⊢
    cases h1 with
    | skip t =>
      simp only [List.getElem?_cons_zero, Option.some.injEq] at h2
      subst h2
      exact ⟨_, SR0.cons fz t, List.perm_append_comm⟩
  | σ, o :: τ, L, i + 1, h1, h2, h3 => by
    rw [List.set_cons_succ] at h1 ⊢
    cases h1 with
    | skip t =>
      obtain ⟨L2, a, b⟩ := SR0.fill fz t (by simpa using h2) (by simpa using h3)
      exact ⟨L2, .skip a, b⟩
    | @cons _ _ La _ _ Lb h t =>
      obtain ⟨L2, a, b⟩ := SR0.fill fz t (by simpa using h2) (by simpa using h3)
      exact ⟨La ++ L2, .cons h a, by rw [List.append_assoc]; exact b.append_left La⟩
theorem SR.fill {F : Addr → Prop} {H : Hp} {v : V} {y : Val} {Ly L : List Addr} {σ : S2} {τ : Sl} {i : Nat} (h : SR P w K F H σ (τ.set i none) L) (e : σ[i]? = some (some v)) (hi : i < τ.length) (fz : VR P w K F H v y Ly) : SR P w K F H σ (τ.set i (some y)) (L ++ Ly) := by
  obtain ⟨L0, s, p⟩ := h
  obtain ⟨L2, a, b⟩ := s.fill fz e hi
  exact ⟨L2, a, b.trans (p.append_right Ly)⟩
/-- a def that leaves its arguments as they are keeps the promise -/
theorem fn_ok {x qual : Str} {st : Stmt} {f : Addr} {fd : FuncData} {N ps : List Str} {k n m : Nat} {B : Sv} (Fn : Fun K x qual st f fd) (S : FnScope N ps (defScope st)) (hn : n = ps.length) (hm : N.length - n = m)
    (hbody : ∀ (cdv : Value) (A : Around) (outer : List Env) (s : Shared) (H : Hp) (E : XK), Room k (A.deeper (envOfC qual (defScope st) s.heap.objs.size f cdv)) → SSs 0 (cxOf CX0 P w K mg base N qual (defScope st) f cdv A outer s H E).nox (defBody st) B) :
    FnOk P w K mg base CX0 (k + 1) f fd ps (spM P w K n (fnM m B)) := by
  refine Fn.ok S (fun vs H Q E h => ?_) fun cdv A outer s H vs Q E hr h => ?_
  · obtain ⟨F, xs, r, _, h1, h2, _⟩ := h
    rw [h1.length, h2, hn]
  · obtain ⟨F, xs, r, ft, h1, h2, ev, post⟩ := h
    refine ⟨_, hbody cdv A outer s H E hr, ?_⟩
    obtain ⟨⟨fl, τ'⟩, e1, ev⟩ := bind_eq ev
    have hl : N.length - vs.length = m := by rw [h1.length, h2, hm]
    have s0 : SR P w K F H (L2.start N vs) (xs.map some ++ List.replicate m none) [] := by
      unfold L2.start
      rw [hl]
      exact ⟨[], SR0.start m h1, List.Perm.refl _⟩
    refine ⟨F, _, [], fl, τ', s0, good_nil ft, e1, ?_⟩
    cases fl with
    | ret v => cases ev; exact fun v σ' F' H' L' Lr hv s' st' k' => post v F' H' Lr hv (by
        have z := st'.sub (Sub.right L' Lr)
        exact ⟨z.good, z.fs, z.kp, z.tr, z.mem, z.fm, fun _ a ha => nomatch ha⟩)
    | next => cases ev; exact fun σ' F' H' L' s' st' k' => post .non F' H' [] .non (by
        have z := st'.sub (Sub.nil L')
        exact ⟨z.good, z.fs, z.kp, z.tr, z.mem, z.fm, fun _ a ha => nomatch ha⟩)
    | brk => exact nomatch ev
    | cont => exact nomatch ev
theorem fn_okIO {x qual : Str} {st : Stmt} {f : Addr} {fd : FuncData} {N ps : List Str} {k n m : Nat} {B : Sv} (Fn : Fun K x qual st f fd) (S : FnScope N ps (defScope st)) (hn : n = ps.length) (hm : N.length - n = m)
    (hbody : ∀ (cdv : Value) (A : Around) (outer : List Env) (s : Shared) (H : Hp) (E : XK), Room k (A.deeper (envOfC qual (defScope st) s.heap.objs.size f cdv)) → SSs 1 (cxOf CX0 P w K mg base N qual (defScope st) f cdv A outer s H E).nox (defBody st) B) :
    FnOk P w K mg base CX0 (k + 1) f fd ps (spIO P w K n (fnIO m B)) := by
  refine Fn.ok S (fun vs H Q E h => ?_) fun cdv A outer s H vs Q E hr h => ?_
  · obtain ⟨F, v0, vs', y, xs, L0, r, y', rfl, _, _, h1, h2, _⟩ := h
    rw [List.length_cons, h1.length, h2, hn]
  · obtain ⟨F, v0, vs', y, xs, L0, r, y', rfl, g, h0, h1, h2, ev, post⟩ := h
    refine ⟨_, hbody cdv A outer s H E hr, ?_⟩
    obtain ⟨⟨fl, τ'⟩, e1, ev⟩ := bind_eq ev
    obtain ⟨z, e2, ev⟩ := slot_some ev
    have hl : N.length - (v0 :: vs').length = m := by rw [List.length_cons, h1.length, h2, hm]
    have s0 : SR P w K F H (L2.start N (v0 :: vs')) ((y :: xs).map some ++ List.replicate m none) L0 := by
      unfold L2.start
      rw [hl]
      have hh : VRs P w K F H (v0 :: vs') (y :: xs) (L0 ++ []) := .cons h0 h1
      rw [List.append_nil] at hh
      exact ⟨L0, SR0.start m hh, List.Perm.refl _⟩
    have first : (L2.start N (v0 :: vs'))[0]? = some (some v0) := rfl
    have fin : ∀ {σ' : S2} {F' : Addr → Prop} {H' : Hp} {L' Lr : List Addr} {v : V}, SR P w K F' H' σ' τ' L' → Step false F H L0 F' H' (L' ++ Lr) → Keep 1 (L2.start N (v0 :: vs')) σ' → ∃ L0', VR P w K F' H' v0 z L0' ∧ Step false F H L0 F' H' (L0' ++ Lr) := by
      intro σ' F' H' L' Lr v s' st' k'
      obtain ⟨v1, Li, Lq, a1, a2, p, _⟩ := s'.at e2
      have e3 := (k' 0 (by decide)).symm.trans a1
      rw [first] at e3
      have e4 : v0 = v1 := Option.some.inj (Option.some.inj e3)
      subst e4
      exact ⟨Li, a2, st'.sub (((Sub.right Lq Li).trans (Sub.of_perm p.symm)).app (Sub.refl Lr))⟩
    refine ⟨F, _, L0, fl, τ', s0, g, e1, ?_⟩
    cases fl with
    | ret v =>
      cases ev
      intro v σ' F' H' L' Lr hv s' st' k'
      obtain ⟨L0', a, b⟩ := fin (v := v) s' st' k'
      exact post v F' H' Lr L0' hv a b
    | next =>
      cases ev
      intro σ' F' H' L' s' st' k'
      obtain ⟨L0', a, b⟩ := fin (Lr := []) (v := v0) s' (by rw [List.append_nil]; exact st') k'
      exact post .non F' H' [] L0' .non a b
    | brk => exact nomatch ev
    | cont => exact nomatch ev
end
/-! calls of the text's own defs -/
def callM (f : List Val → Option Val) (Ds : Evs) : Ev := fun τ => (Ds τ).bind fun p => (f (frzL p.1)).bind fun r => if (pureL p.1 || r.own) = true then some (r, p.2) else none
def callIO (f : List Val → Option (Val × Val)) (i : Nat) (Ds : Evs) : Ev := fun τ => (τ[i]?).bind fun o => o.bind fun _ => (Ds τ).bind fun p => (p.2[i]?).bind fun o => o.bind fun y => if pureL p.1 = true then (f (y :: p.1)).bind fun r => some (r.1, p.2.set i (some r.2)) else none
section
variable {P : Program} {w : World} {K : PySem.W.Frag} {q : Bool}
theorem frzL_length : ∀ xs : List Val, (frzL xs).length = xs.length
  | [] => rfl
  | x :: r => congrArg (· + 1) (frzL_length r)
theorem tCall_ok {n : Nat} {f : List Val → Option Val} {Ds : Evs} (hl : ∀ τ p, Ds τ = some p → p.1.length = n) (E : XK) (σ : S2) (H : Hp) (Q : VK) (h : tE P w K q (callM f Ds) σ H Q) : tCall (spM P w K n f) [] E (tOs P w K q Ds) σ H Q := by
  obtain ⟨F, τ, L, r, τ', s, gd, ev, post⟩ := h
  obtain ⟨⟨xs, τ1⟩, e1, ev⟩ := bind_eq ev
  obtain ⟨r', e2, ev⟩ := bind_eq ev
  split at ev
  · rename_i hc
    cases ev
    refine ⟨F, τ, L, xs, _, s, gd, e1, fun vs F1 H1 L1 Lr h1 s1 st1 => ?_⟩
    show spM P w K n f (vs ++ []) H1 Q E
    rw [List.append_nil]
    refine ⟨fun a => F1 a ∨ a ∈ Lr, frzL xs, r, fun a ha => ?_, h1.frz (fun _ z => .inl z) (fun a ha => .inr ha), by rw [frzL_length]; exact hl _ _ e1, e2, fun v F2 H2 Lq hv st2 => ?_⟩
    · rcases ha with z | z
      · exact st1.good.ft a z
      · obtain ⟨o, e, _⟩ := h1.lt a z
        rw [e]; exact fun k => nomatch k
    · have keep := st2.keep
      have hv2 : VR P w K (fun a => F2 a ∧ (a ∈ Lr → F1 a)) H2 v r Lq := by
        simp only [Bool.or_eq_true] at hc
        rcases hc with hc | hc
        · have hc' : pureL xs = true := hc
          have el := h1.pure_nil hc'
          subst el
          exact hv.mono (fun a ha => ⟨ha, fun z => nomatch z⟩) (fun _ _ => rfl) fun _ _ => rfl
        · refine hv.strip (fun a us h2 h3 => ⟨h2, fun z => ?_⟩) hc
          obtain ⟨o, e, nt⟩ := h1.lt a z
          have k := keep a (by rw [e]; exact fun k => nomatch k)
          rw [h3, e] at k
          exact absurd (Option.some.inj k).symm (nt us)
      have st3 : Step true F1 H1 [] (fun a => F2 a ∧ (a ∈ Lr → F1 a)) H2 Lq :=
        ⟨⟨st2.good.nd, fun a ha z => st2.good.nf a ha z.1, fun a ha => st2.good.ft a ha.1, st2.good.lt⟩, fun a ha => ⟨st2.fs a (.inl ha), fun _ => ha⟩, st2.kp, st2.tr, st2.mem, fun a ha => by
          rcases st2.fm a ha.1 with (z | z) | z | z
          · exact .inl z
          · exact .inl (ha.2 z)
          · exact .inr (.inl z)
          · exact .inr (.inr z), fun _ a ha => nomatch ha⟩
      exact post v _ H2 L1 Lq hv2 (s1.stepQ st3 st1.good.ft) (st1.op st3)
  · exact nomatch ev
theorem tCallIO_ok {n i : Nat} {f : List Val → Option (Val × Val)} {Ds : Evs} (hl : ∀ τ p, Ds τ = some p → p.1.length + 1 = n) (E : XK) (σ : S2) (H : Hp) (Q : VK) (h : tE P w K false (callIO f i Ds) σ H Q) : tCall (spIO P w K n f) [] E (tCons (tVar i) (tEs P w K q Ds)) σ H Q := by
  obtain ⟨F, τ, L, r, τ', s, gd, ev, post⟩ := h
  obtain ⟨y0, e0, ev⟩ := slot_some ev
  obtain ⟨⟨xs, τ1⟩, e1, ev⟩ := bind_eq ev
  obtain ⟨y, e2, ev⟩ := slot_some ev
  obtain ⟨v0, _, _, a0, _⟩ := s.at e0
  split at ev
  · rename_i hc
    have hc' : pureL xs = true := hc
    obtain ⟨⟨r', y'⟩, e3, ev⟩ := bind_eq ev
    cases ev
    refine ⟨v0, a0, F, τ, L, xs, τ1, s, gd, e1, fun vs F1 H1 L1 Lr h1 s1 st1 => ?_⟩
    obtain ⟨v1, Li, Lq, a1, a2, p, _, s2, _⟩ := s1.at e2
    rw [a0] at a1
    have ev1 : v0 = v1 := Option.some.inj (Option.some.inj a1)
    subst ev1
    have hnil := h1.pure_nil hc'
    subst hnil
    rw [List.append_nil] at st1
    have g1 : Good F1 H1 (Li ++ Lq) := st1.good.sub (Sub.of_perm (List.perm_append_comm.trans p.symm))
    show spIO P w K n f ((v0 :: vs) ++ []) H1 Q E
    rw [List.append_nil]
    refine ⟨F1, v0, vs, y, xs, Li, r', y', rfl, g1.sub (Sub.left _ _), a2, h1, hl _ _ e1, e3, fun v F2 H2 Lr L0' hv h0 st2 => ?_⟩
    have st3 := st2.frame (R := Lq) g1
    have dj := (List.nodup_append.mp g1.nd).2.2
    have hi : i < τ1.length := by
      rcases Nat.lt_or_ge i τ1.length with c | c
      · exact c
      · have e2' : τ1[i]? = some (some y) := e2
        rw [List.getElem?_eq_none c] at e2'; cases e2'
    have s3 : SR P w K F2 H2 σ (τ1.set i none) Lq := s2.stepR st2 st1.good.ft (fun a ha => g1.nf a (List.mem_append_left _ ha)) fun a ha z => dj a z a ha rfl
    have s4 := s3.fill a0 hi h0
    refine post v F2 H2 _ Lr hv s4 ?_
    have st1' : Step false F H L F1 H1 (Li ++ Lq) := (st1.sub (Sub.of_perm (List.perm_append_comm.trans p.symm))).weak
    refine (st1'.trans st3).sub (Sub.of_perm ?_)
    rw [List.append_assoc, List.append_assoc]
    refine List.perm_append_comm.trans ?_
    rw [List.append_assoc]
  · exact nomatch ev
end
section
variable {X : Cx} {q : Bool} {k n : Nat} {f : Addr} {fd : FuncData} {ps : List Str} {x : Str} {e : Expr} {es : List Expr} {Ds : Evs} {p pos : Pos}
theorem consM_len {D : Ev} {Ds : Evs} {m : Nat} (h : ∀ τ p, Ds τ = some p → p.1.length = m) : ∀ τ p, consM D Ds τ = some p → p.1.length = m + 1 := fun τ p e => by
  obtain ⟨⟨y, τ1⟩, _, e⟩ := bind_eq e
  obtain ⟨⟨ys, τ2⟩, e2, e⟩ := bind_eq e
  cases e
  exact congrArg (· + 1) (h _ _ e2)
theorem nilM_len : ∀ τ p, nilM τ = some p → p.1.length = 0 := fun τ p e => by cases e; rfl
theorem se_call {g : List Val → Option Val} (Fk : FnOk X.prog X.w X.K X.mg X.base CX0 k f fd ps (spM X.prog X.w X.K n g)) (hr : Room k X.A) (hm : X.mg x = some (.ref f)) (hk : PySem.W.keepIn X.K (.ref f) = true) (hb : Binds X.K fd ps []) (ha : SOs q X (e :: es) Ds)
    (hl : ∀ τ p, Ds τ = some p → p.1.length = n) (hg : Gl X x := by rfl) (hdb : (x == ("__debug__" : Str)) = false := by decide) (he : starEach (e :: es) X.env = (false, eval e X.env) :: starEach es X.env := by rfl) (hpl : (backTo pos (starEach es X.env)).any (·.1) = false := by rfl) :
    SE q X (.Call (.Name x p) (e :: es) [] pos) (callM g Ds) := peI (pe_call Fk hr hg hm hk hb .nil (E := E0) pass0 ha hdb he hpl) (tCall_ok hl E0)
theorem se_callIO {i : Nat} {y : Str} {yp : Pos} {g : List Val → Option (Val × Val)} (Fk : FnOk X.prog X.w X.K X.mg X.base CX0 k f fd ps (spIO X.prog X.w X.K n g)) (hr : Room k X.A) (hm : X.mg x = some (.ref f)) (hk : PySem.W.keepIn X.K (.ref f) = true) (hb : Binds X.K fd ps [])
    (ha : SEs q X es Ds) (hl : ∀ τ p, Ds τ = some p → p.1.length + 1 = n) (hN : X.N[i]? = some y := by rfl) (hv : Vis X.env.scope y := by first | exact Or.inl rfl | exact Or.inr (Or.inl rfl) | exact Or.inr (Or.inr rfl))
    (hd : (y == ("__debug__" : Str)) = false := by decide) (hcd : (y == ("__classdict__" : Str)) = false := by decide) (hs : starEach (.Name y yp :: es) X.env = (false, eval (.Name y yp) X.env) :: starEach es X.env := by rfl)
    (hg : Gl X x := by rfl) (hdb : (x == ("__debug__" : Str)) = false := by decide) (hpl : (backTo pos (starEach es X.env)).any (·.1) = false := by rfl) :
    SE false X (.Call (.Name x p) (.Name y yp :: es) [] pos) (callIO g i Ds) := peI (pe_call Fk hr hg hm hk hb .nil (E := E0) pass0 (pa_cons (pe_var hN hv hd hcd) ha hs) hdb hs hpl) (tCallIO_ok hl E0)
end
end MV
end

section
set_option maxHeartbeats 4000000
/-! what is walked; for; comprehensions -/
namespace MV
open PySem PySem.Spec PyProof.Rows L2

theorem Step.ext0 {F F' : Addr → Prop} {H H' : Hp} {L : List Addr} (b : Step true F H [] F' H' []) (g : Good F H L) : Step true F H L F' H' L := by
  have h := b.frame (R := L) (L1 := []) (by rw [List.nil_append]; exact g)
  rwa [List.nil_append] at h
/-- J yields the pure values xs, one after another, while what never changes stands -/
def JOk (P : Program) (w : World) (K : PySem.W.Frag) (F : Addr → Prop) (H : Hp) (J : It) (xs : List Val) : Prop :=
  pureL xs = true ∧ ∀ F' H', (∀ a, F a → F' a) → (∀ a, F a → H' a = H a) → (∀ a, F' a → H' a ≠ none) → ∀ i,
    (∀ x, xs[i]? = some x → J.go i H' ∧ ∀ v H2, J.yld i H' v H2 → ∃ F2, VR P w K F2 H2 v x [] ∧ Step true F' H' [] F2 H2 []) ∧ (xs.length ≤ i → J.stop i H')
section
variable (P : Program) (w : World) (K : PySem.W.Frag) (q : Bool)
def tI (D : Evs) : TI := fun σ H R => ∃ F τ L xs τ', SR P w K F H σ τ L ∧ Good F H L ∧ D τ = some (xs, τ') ∧
  ∀ J F' H' L', SR P w K F' H' σ τ' L' → Step q F H L F' H' L' → JOk P w K F' H' J xs → R J H'
end
abbrev SI (q : Bool) (X : Cx) (tg iter : Expr) (D : Evs) : Prop := PI X tg iter (tI X.prog X.w X.K q D)
theorem piI {X : Cx} {tg iter : Expr} {t t' : TI} (h : PI X tg iter t) (i : ∀ σ H R, t' σ H R → t σ H R) : PI X tg iter t' := ⟨fun pins s σ H R I hw => h.run pins s σ H R I (i σ H R hw)⟩
theorem SI.weak {q : Bool} {X : Cx} {tg iter : Expr} {D : Evs} (h : SI true X tg iter D) : SI q X tg iter D := piI h fun σ H R ⟨F, τ, L, xs, τ', s, g, ev, post⟩ => ⟨F, τ, L, xs, τ', s, g, ev, fun J F' H' L' s' st j => post J F' H' L' s' st.weak' j⟩

/-! the sources -/
def lstI (D : Ev) : Evs := fun τ => (D τ).bind fun p => match p.1 with
  | .lst _ xs => some (frzL xs, p.2)
  | _ => none
def tupI (D : Ev) : Evs := fun τ => (D τ).bind fun p => match p.1 with
  | .tup xs => some (frzL xs, p.2)
  | _ => none
def rngL (lo hi : Int) : List Val := (List.range (hi - lo).toNat).map fun i => .int (lo + (i : Nat))
def inR (i : Int) : Bool := decide (-(2 ^ 62) ≤ i) && decide (i < 2 ^ 62)
def rng1I (Ds : Evs) : Evs := fun τ => (Ds τ).bind fun p => match p.1 with
  | [.int j] => if inR j = true then some (rngL 0 j, p.2) else none
  | _ => none
def rng2I (Ds : Evs) : Evs := fun τ => (Ds τ).bind fun p => match p.1 with
  | [.int i, .int j] => if (inR i && inR j) = true then some (rngL i j, p.2) else none
  | _ => none
section
variable {P : Program} {w : World} {K : PySem.W.Frag}
theorem frzL_get {xs : List Val} {i : Nat} {x : Val} (h : (frzL xs)[i]? = some x) : ∃ y, xs[i]? = some y := by
  rw [frzL_map, List.getElem?_map] at h
  cases e : xs[i]? with
  | none => rw [e] at h; exact nomatch h
  | some y => exact ⟨y, rfl⟩
theorem jok_list {F : Addr → Prop} {H : Hp} {a : Addr} {vs : List V} {xs : List Val} (hF : F a) (hr : Rd H a (.lst vs)) (h : VRs P w K F H vs xs []) (hp : pureL xs = true) : JOk P w K F H (Itl K a) xs := by
  refine ⟨hp, fun F' H' fs fh ft i => ?_⟩
  have hq : SqL K H' a vs := .inl (Rd.eqH (fh a hF) hr)
  have h' : VRs P w K F' H' vs xs [] := h.mono fs fh fun _ z => nomatch z
  refine ⟨fun x hx => ?_, fun hl => ⟨vs, hq, by rw [h.length]; exact hl⟩⟩
  obtain ⟨v, L1, e1, e2, sb⟩ := h'.get hx
  have en : L1 = [] := List.sublist_nil.mp sb
  subst en
  refine ⟨⟨vs, v, hq, e1⟩, fun u H2 y => ?_⟩
  obtain ⟨rfl, y⟩ := y
  have eu : u = v := Option.some.inj ((y vs hq).symm.trans e1)
  subst eu
  exact ⟨F', e2, Step.id ft⟩
theorem jok_tup {F : Addr → Prop} {H : Hp} {a : Addr} {vs : List V} {xs : List Val} (ha : TupAt K F H a vs) (h : VRs P w K F H vs xs []) (hp : pureL xs = true) : JOk P w K F H (Itt K a) xs := by
  refine ⟨hp, fun F' H' fs fh ft i => ?_⟩
  have hq : SqT K H' a vs := (ha.mono fs fh).sq
  have h' : VRs P w K F' H' vs xs [] := h.mono fs fh fun _ z => nomatch z
  refine ⟨fun x hx => ?_, fun hl => ⟨vs, hq, by rw [h.length]; exact hl⟩⟩
  obtain ⟨v, L1, e1, e2, sb⟩ := h'.get hx
  have en : L1 = [] := List.sublist_nil.mp sb
  subst en
  refine ⟨⟨vs, v, hq, e1⟩, fun u H2 y => ?_⟩
  obtain ⟨rfl, y⟩ := y
  have eu : u = v := Option.some.inj ((y vs hq).symm.trans e1)
  subst eu
  exact ⟨F', e2, Step.id ft⟩
theorem pureL_map_int {α : Type} (f : α → Int) : ∀ l : List α, pureL (l.map fun i => .int (f i)) = true
  | [] => rfl
  | x :: r => by
    show (Val.pure (.int (f x)) && pureL (r.map fun i => .int (f i))) = true
    rw [pureL_map_int f r]; rfl
theorem rngL_pure (lo hi : Int) : pureL (rngL lo hi) = true := pureL_map_int (fun i : Nat => lo + (i : Int)) _
theorem rngL_length (lo hi : Int) : (rngL lo hi).length = (hi - lo).toNat := by simp [rngL]
theorem jok_rng {F : Addr → Prop} {H : Hp} (lo hi : Int) : JOk P w K F H (Itr lo (hi - lo).toNat) (rngL lo hi) := by
  refine ⟨rngL_pure lo hi, fun F' H' fs fh ft i => ⟨fun x hx => ?_, fun hl => by rw [rngL_length] at hl; exact hl⟩⟩
  have hi' : i < (hi - lo).toNat := by
    rcases Nat.lt_or_ge i (hi - lo).toNat with c | c
    · exact c
    · rw [List.getElem?_eq_none (by rw [rngL_length]; exact c)] at hx; cases hx
  have ex : x = .int (lo + (i : Nat)) := by
    unfold rngL at hx
    rw [List.getElem?_map, List.getElem?_range hi'] at hx
    exact (Option.some.inj hx).symm
  subst ex
  refine ⟨hi', fun u H2 y => ?_⟩
  obtain ⟨rfl, rfl⟩ := y
  exact ⟨F', .int _, Step.id ft⟩
end
section
variable {X : Cx} {tg : Expr} {q : Bool} {e a b : Expr} {D : Ev} {pos p : Pos} {Ds : Evs}
theorem si_list (he : SE q X e D) : SI q X tg e (lstI D) := piI (pi_list he) fun σ H R ⟨F, τ, L, xs, τ', s, g, ev, post⟩ => by
  obtain ⟨⟨x, τ1⟩, e1, ev⟩ := bind_eq ev
  cases x with
  | lst m ys =>
    cases ev
    refine ⟨F, τ, L, _, _, s, g, e1, fun v F1 H1 L1 Lr h1 s1 st1 => ?_⟩
    cases h1 with
    | @lst a _ vs _ L0 _ hA hvs =>
      have st2 := Step.freeze st1.good
      obtain ⟨hA2, hl0⟩ := hA.frz (F' := fun a => F1 a ∨ a ∈ Lr) (fun _ z => .inl z) fun a ha => .inr ha
      have hv2 := hvs.frz (F' := fun a => F1 a ∨ a ∈ Lr) (fun _ z => .inl z) hl0
      simp only [At, Bool.false_eq_true, if_false] at hA2
      have s2 : SR X.prog X.w X.K (fun a => F1 a ∨ a ∈ Lr) H1 σ τ1 L1 := s1.mono (fun _ z => .inl z) (fun _ _ => rfl) fun _ _ => rfl
      refine ⟨a, rfl, ⟨vs, .inl (.inl hA2.2.1)⟩, post _ _ H1 L1 s2 (st1.trans st2).andT (jok_list hA2.1 (.inl hA2.2.1) hv2 (frzL_pure _))⟩
  | _ => exact nomatch ev
theorem si_tup (he : SE q X e D) : SI q X tg e (tupI D) := piI (pi_tup he) fun σ H R ⟨F, τ, L, xs, τ', s, g, ev, post⟩ => by
  obtain ⟨⟨x, τ1⟩, e1, ev⟩ := bind_eq ev
  cases x with
  | tup ys =>
    cases ev
    refine ⟨F, τ, L, _, _, s, g, e1, fun v F1 H1 L1 Lr h1 s1 st1 => ?_⟩
    cases h1 with
    | @tup a vs _ _ hA hvs =>
      have st2 := Step.freeze st1.good
      have hA2 := hA.mono (F' := fun a => F1 a ∨ a ∈ Lr) (H' := H1) (fun _ z => .inl z) fun _ _ => rfl
      have hv2 := hvs.frz (F' := fun a => F1 a ∨ a ∈ Lr) (fun _ z => .inl z) fun a ha => .inr ha
      have s2 : SR X.prog X.w X.K (fun a => F1 a ∨ a ∈ Lr) H1 σ τ1 L1 := s1.mono (fun _ z => .inl z) (fun _ _ => rfl) fun _ _ => rfl
      refine ⟨a, rfl, ⟨vs, hA2.sq⟩, post _ _ H1 L1 s2 (st1.trans st2).andT (jok_tup hA2 hv2 (frzL_pure _))⟩
  | _ => exact nomatch ev
theorem inR_le {i : Int} (h : inR i = true) : -(2 ^ 62) ≤ i ∧ i < 2 ^ 62 := by
  simp only [inR, Bool.and_eq_true, decide_eq_true_eq] at h
  exact h
theorem si_rng1 (hm : X.mg "range" = none) (ha : SOs q X [a] Ds) (hg : Gl X "range" := by rfl) (hs : starEach [a] X.env = [(false, eval a X.env)] := by rfl) : SI q X tg (.Call (.Name "range" p) [a] [] pos) (rng1I Ds) :=
  piI (pi_range1 hg hm ha hs) fun σ H R ⟨F, τ, L, xs, τ', s, g, ev, post⟩ => by
    obtain ⟨⟨ys, τ1⟩, e1, ev⟩ := bind_eq ev
    match ys, ev, e1 with
    | [.int j], ev, e1 =>
      have ev' : (if inR j = true then some (rngL 0 j, τ1) else none) = some (xs, τ') := ev
      split at ev'
      · rename_i hj
        cases ev'
        refine ⟨F, τ, L, _, _, s, g, e1, fun vs F1 H1 L1 Lr h1 s1 st1 => ?_⟩
        cases h1 with
        | cons h t =>
          cases t
          cases h
          refine ⟨j, rfl, (inR_le hj).1, (inR_le hj).2, ?_⟩
          have z := post (Itr 0 (j - 0).toNat) F1 H1 L1 s1 st1 (jok_rng 0 j)
          rwa [Int.sub_zero] at z
      · exact nomatch ev'
theorem si_rng2 (hm : X.mg "range" = none) (ha : SOs q X [a, b] Ds) (hg : Gl X "range" := by rfl) (hs : starEach [a, b] X.env = [(false, eval a X.env), (false, eval b X.env)] := by rfl) (hs2 : starEach [b] X.env = [(false, eval b X.env)] := by rfl) : SI q X tg (.Call (.Name "range" p) [a, b] [] pos) (rng2I Ds) :=
  piI (pi_range2 hg hm ha hs hs2) fun σ H R ⟨F, τ, L, xs, τ', s, g, ev, post⟩ => by
    obtain ⟨⟨ys, τ1⟩, e1, ev⟩ := bind_eq ev
    match ys, ev, e1 with
    | [.int i, .int j], ev, e1 =>
      have ev' : (if (inR i && inR j) = true then some (rngL i j, τ1) else none) = some (xs, τ') := ev
      split at ev'
      · rename_i hj
        cases ev'
        rw [Bool.and_eq_true] at hj
        refine ⟨F, τ, L, _, _, s, g, e1, fun vs F1 H1 L1 Lr h1 s1 st1 => ?_⟩
        cases h1 with
        | cons h t =>
          cases t with
          | cons h2 t =>
            cases t
            cases h
            cases h2
            exact ⟨i, j, rfl, ⟨(inR_le hj.1).1, (inR_le hj.1).2, (inR_le hj.2).1, (inR_le hj.2).2⟩, post _ F1 H1 L1 s1 st1 (jok_rng i j)⟩
      · exact nomatch ev'
end

/-! for -/
def forL (T : Tg) (B : Sv) : List Val → Sv
  | [], τ => some (.next, τ)
  | x :: r, τ => (T x τ).bind fun τ1 => (B τ1).bind fun p => match p.1 with
    | .next => forL T B r p.2
    | .cont => forL T B r p.2
    | .brk => some (.next, p.2)
    | .ret v => some (.ret v, p.2)
def forM (I : Evs) (T : Tg) (B : Sv) : Sv := fun τ => (I τ).bind fun p => forL T B p.1 p.2
section
variable {X : Cx} {tg iter : Expr} {q : Bool} {pos : Pos} {n : Nat}
theorem ss_for {body : List Stmt} {I : Evs} {T : Tg} {B : Sv} {own : List Nat} (hp : PassesOwn (model X.prog X.w) X.A X.env X.xe) (hc : X.calm = true) (hn : ∀ j ∈ own, n ≤ j) (hi : SI q X tg iter I) (hg : SG own X tg T) (hb : SSs n X body B)
    (hs : ∀ x, foldedSetIterable iter X.env x = Pure.pure x := by intro _; rfl) : SS n X (.For tg iter body [] pos) (forM I T B) :=
  psI (ps_for hp hc hi hg hb hs) fun D σ H ⟨F, τ, L, fl, τe, s, g, ev, post⟩ => by
    obtain ⟨⟨xs, τ0⟩, e0, ev⟩ := bind_eq ev
    refine ⟨F, τ, L, xs, τ0, s, g, e0, fun J F0 H0 L0 s0 st0 j0 => ?_⟩
    have post0 := post.trans st0 .refl
    -- what stands ahead of the turn i
    refine ⟨fun i m σ' H' => m = xs.length - i ∧ ∃ F' τ' L', (∀ a, F0 a → F' a) ∧ (∀ a, F0 a → H' a = H0 a) ∧ SR X.prog X.w X.K F' H' σ' τ' L' ∧ Good F' H' L' ∧ forL T B (xs.drop i) τ' = some (fl, τe) ∧ EndP X.prog X.w X.K n D σ' F' H' L' fl τe,
      ⟨xs.length, rfl, F0, τ0, L0, fun _ z => z, fun _ _ => rfl, s0, st0.good, ev, post0⟩, ?_⟩
    rintro i m σ1 H1 ⟨rfl, F1, τ1, L1, fs, fh, s1, g1, h1, post1⟩
    cases hx : xs[i]? with
    | none =>
      have hl : xs.length ≤ i := List.getElem?_eq_none_iff.mp hx
      rw [List.drop_eq_nil_of_le hl] at h1
      cases h1
      exact .inl ⟨(j0.2 F1 H1 fs fh g1.ft i).2 hl, post1 σ1 F1 H1 L1 s1 (Step.refl g1).weak .refl⟩
    | some x =>
      have hi' : i < xs.length := by
        rcases Nat.lt_or_ge i xs.length with c | c
        · exact c
        · rw [List.getElem?_eq_none c] at hx; cases hx
      have hd : xs.drop i = x :: xs.drop (i + 1) := by
        rw [List.drop_eq_getElem_cons hi']
        rw [List.getElem?_eq_getElem hi'] at hx
        rw [Option.some.inj hx]
      rw [hd] at h1
      obtain ⟨τ2, e2, h1⟩ := bind_eq h1
      obtain ⟨⟨f, τ3⟩, e3, h1⟩ := bind_eq h1
      obtain ⟨go, yl⟩ := (j0.2 F1 H1 fs fh g1.ft i).1 x hx
      refine .inr ⟨go, fun σ' H' => ∃ F' τ' L', (∀ a, F0 a → F' a) ∧ (∀ a, F0 a → H' a = H0 a) ∧ SR X.prog X.w X.K F' H' σ' τ' L' ∧ Good F' H' L' ∧ forL T B (xs.drop (i + 1)) τ' = some (fl, τe) ∧ EndP X.prog X.w X.K n D σ' F' H' L' fl τe,
        fun σ' H' h => ⟨xs.length - (i + 1), by omega, rfl, h⟩, fun v H2 y => ?_⟩
      obtain ⟨F2, hv, st2⟩ := yl v H2 y
      have st2' := st2.ext0 g1
      have s2 : SR X.prog X.w X.K F2 H2 σ1 τ1 L1 := s1.stepQ st2 g1.ft
      refine ⟨F2, τ1, L1, x, [], τ2, s2, by rw [List.append_nil]; exact st2'.good, hv, e2, fun σ3 L3 s3 sb k3 => ?_⟩
      rw [List.append_nil] at sb
      have g3 := st2'.good.sub sb
      have st3 : Step true F1 H1 L1 F2 H2 L3 := st2'.sub sb
      have k3' := k3.keep hn
      refine ⟨F2, τ2, L3, f, τ3, s3, g3, e3, ?_⟩
      have post3 := post1.trans st3 k3'
      have go2 : ∀ {σ' : S2} {F' : Addr → Prop} {H' : Hp} {L' : List Addr}, SR X.prog X.w X.K F' H' σ' τ3 L' → Step false F2 H2 L3 F' H' L' → Keep n σ3 σ' → forL T B (xs.drop (i + 1)) τ3 = some (fl, τe) →
          ∃ F' τ' L', (∀ a, F0 a → F' a) ∧ (∀ a, F0 a → H' a = H0 a) ∧ SR X.prog X.w X.K F' H' σ' τ' L' ∧ Good F' H' L' ∧ forL T B (xs.drop (i + 1)) τ' = some (fl, τe) ∧ EndP X.prog X.w X.K n D σ' F' H' L' fl τe := fun {σ' F' H' L'} s' st' k' h' =>
        ⟨F', τ3, L', fun a ha => st'.fs a (st2.fs a (fs a ha)), fun a ha => (st'.kp a (st2.good.ft a (st2.fs a (fs a ha))) fun z => g3.nf a z (st2.fs a (fs a ha))).trans ((st2.keep a (g1.ft a (fs a ha))).trans (fh a ha)), s', st'.good, h', post3.trans st' k'⟩
      cases f with
      | next => exact fun σ4 F4 H4 L4 s4 st4 k4 => go2 s4 st4 k4 h1
      | cont => exact fun σ4 F4 H4 L4 s4 st4 k4 => go2 s4 st4 k4 h1
      | brk => cases h1; exact post3
      | ret v => cases h1; exact post3
end

/-! list comprehensions -/
def wipeM (τ : Sl) : List Nat → Sl
  | [] => τ
  | v :: vs => (wipeM τ vs).set v none
def lcL (T : Tg) (C : Tv) (E : Ev) (own : List Nat) : List Val → Sl → Option (List Val × Sl)
  | [], τ => some ([], τ)
  | x :: r, τ => (T x τ).bind fun τ1 => (C τ1).bind fun p => if p.1 = true then (E p.2).bind fun y => (lcL T C E own r (wipeM y.2 own)).bind fun z => some (y.1 :: z.1, z.2) else lcL T C E own r (wipeM p.2 own)
def lcM (I : Evs) (T : Tg) (C : Tv) (E : Ev) (own : List Nat) : Ev := fun τ => (I τ).bind fun p => (lcL T C E own p.1 (wipeM p.2 own)).bind fun r => if r.1.length ≤ sizeLine then some (.lst true r.1, r.2) else none
def yesM : Tv := fun τ => some (true, τ)
abbrev STs (q : Bool) (X : Cx) (ifs : List Expr) (D : Tv) : Prop := PTs X ifs (tT X.prog X.w X.K q D)
theorem ptsI {X : Cx} {ifs : List Expr} {t t' : TT} (h : PTs X ifs t) (i : ∀ σ H Q, t' σ H Q → t σ H Q) : PTs X ifs t' := ⟨fun pins s σ H Q I hw => h.run pins s σ H Q I (i σ H Q hw)⟩
theorem sts_nil {X : Cx} : STs true X [] yesM := ptsI pts_nil fun σ H Q ⟨F, τ, L, b, τ', s, g, ev, post⟩ => by
  cases ev
  exact post F H L s (Step.refl g)
theorem sts_one {X : Cx} {q : Bool} {c : Expr} {T : Tv} (h : ST q X c T) : STs q X [c] T := pts_one h
theorem STs.weak {X : Cx} {q : Bool} {ifs : List Expr} {D : Tv} (h : STs true X ifs D) : STs q X ifs D := ptsI h fun σ H Q ⟨F, τ, L, x, τ', s, g, ev, post⟩ => ⟨F, τ, L, x, τ', s, g, ev, fun F' H' L' h2 h3 => post F' H' L' h2 h3.weak'⟩
theorem wipe_get {σ : S2} : ∀ (vs : List Nat) (j : Nat), (wipe σ vs)[j]? = if j ∈ vs then (σ[j]?).map fun _ => none else σ[j]?
  | [], j => by simp [wipe]
  | v :: vs, j => by
    unfold wipe
    by_cases hj : v = j
    · subst hj
      have hm : v ∈ v :: vs := List.mem_cons_self
      rw [if_pos hm]
      rcases Nat.lt_or_ge v (wipe σ vs).length with c | c
      · rw [List.getElem?_set_self c]
        rw [wipe_length] at c
        rw [List.getElem?_eq_getElem c] <;> rfl
      · rw [List.getElem?_eq_none (by simpa using c)]
        rw [wipe_length] at c
        rw [List.getElem?_eq_none c] <;> rfl
    · rw [List.getElem?_set_ne hj, wipe_get vs j]
      have e : (j ∈ v :: vs) ↔ j ∈ vs := by
        rw [List.mem_cons]
        exact ⟨fun h => h.elim (fun z => absurd z.symm hj) id, .inr⟩
      by_cases hm : j ∈ vs
      · rw [if_pos hm, if_pos (e.mpr hm)]
      · rw [if_neg hm, if_neg fun z => hm (e.mp z)]
theorem wipe_keep {own : List Nat} {σ σ' : S2} (k : KeepO own σ σ') : wipe σ' own = wipe σ own := by
  refine List.ext_getElem? fun j => ?_
  rw [wipe_get, wipe_get]
  by_cases hj : j ∈ own
  · rw [if_pos hj, if_pos hj]
    rcases Nat.lt_or_ge j σ.length with c | c
    · rw [List.getElem?_eq_getElem c, List.getElem?_eq_getElem (by rw [k.1]; exact c)] <;> rfl
    · rw [List.getElem?_eq_none c, List.getElem?_eq_none (by rw [k.1]; exact c)]
  · rw [if_neg hj, if_neg hj]
    exact k.2 j hj
section
variable {P : Program} {w : World} {K : PySem.W.Frag} {F : Addr → Prop} {H : Hp}
theorem SR.wip {σ : S2} {τ : Sl} {L : List Addr} (s : SR P w K F H σ τ L) : ∀ vs : List Nat, ∃ L2, SR P w K F H (wipe σ vs) (wipeM τ vs) L2 ∧ Sub L2 L
  | [] => ⟨L, s, Sub.refl _⟩
  | v :: vs => by
    obtain ⟨L2, s2, b2⟩ := SR.wip s vs
    obtain ⟨L3, s3, b3⟩ := s2.clear (i := v) (o := none)
    exact ⟨L3, s3, b3.trans b2⟩
theorem SR.unwip {σ : S2} : ∀ (vs : List Nat) {τ : Sl} {L : List Addr}, SR P w K F H (wipe σ vs) τ L → ∃ L2, SR P w K F H σ (wipeM τ vs) L2 ∧ Sub L2 L
  | [], τ, L, s => ⟨L, s, Sub.refl _⟩
  | v :: vs, τ, L, s => by
    -- the last slot first
    have hs : ∀ {σ1 : S2} {o : Option V}, SR P w K F H σ1 τ L → ∃ L2, SR P w K F H (σ1.set v o) (τ.set v none) L2 ∧ Sub L2 L := fun s => s.clear
    rcases Nat.lt_or_ge v (wipe σ vs).length with c | c
    · obtain ⟨L2, s2, b2⟩ := s.clear (i := v) (o := (wipe σ vs)[v])
      have e : ((wipe σ (v :: vs)).set v (wipe σ vs)[v]) = wipe σ vs := by
        show (((wipe σ vs).set v none).set v (wipe σ vs)[v]) = wipe σ vs
        rw [List.set_set, List.set_getElem_self]
      rw [e] at s2
      obtain ⟨L3, s3, b3⟩ := SR.unwip vs s2
      refine ⟨L3, ?_, b3.trans b2⟩
      have ec : ∀ (vs : List Nat) (τ : Sl), wipeM (τ.set v none) vs = (wipeM τ vs).set v none := by
        intro vs
        induction vs with
        | nil => intro τ; rfl
        | cons u us ih =>
          intro τ
          show (wipeM (τ.set v none) us).set u none = ((wipeM τ us).set u none).set v none
          rw [ih]
          by_cases h : u = v
          · subst h; rfl
          · rw [List.set_comm _ _ h]
      rw [ec] at s3
      exact s3
    · have e : wipe σ (v :: vs) = wipe σ vs := List.set_eq_of_length_le c
      rw [e] at s
      obtain ⟨L3, s3, b3⟩ := SR.unwip vs s
      refine ⟨L3, ?_, b3⟩
      show SR P w K F H σ ((wipeM τ vs).set v none) L3
      rw [List.set_eq_of_length_le (by
        have h1 := s3.length
        rw [wipe_length] at c
        omega)]
      exact s3
theorem wipeM_length (τ : Sl) : ∀ vs : List Nat, (wipeM τ vs).length = τ.length
  | [] => rfl
  | v :: vs => by unfold wipeM; rw [List.length_set, wipeM_length τ vs]
end
section
variable {P : Program} {w : World} {K : PySem.W.Frag} {q : Bool}
theorem tLc_ok {I : Evs} {T : Tg} {C : Tv} {E : Ev} {own own' : List Nat} (ho : ∀ j ∈ own', j ∈ own) (σ : S2) (H : Hp) (Q : VK) (h : tE P w K q (lcM I T C E own) σ H Q) :
    tLc (tI P w K q I) (tG P w K own' T) (tT P w K q C) (tE P w K q E) own σ H Q := by
  obtain ⟨F, τ, L, r, τe, s, g, ev, post⟩ := h
  obtain ⟨⟨xs, τ0⟩, e0, ev⟩ := bind_eq ev
  obtain ⟨⟨ys, τ9⟩, e9, ev⟩ := bind_eq ev
  split at ev
  · rename_i hz
    have hz' : ys.length ≤ sizeLine := hz
    cases ev
    refine ⟨F, τ, L, xs, τ0, s, g, e0, fun J F0 H0 L0 s0 st0 j0 Dd np => ?_⟩
    obtain ⟨Lw, sw, bw⟩ := s0.wip own
    have gw := st0.good.sub bw
    have stw : Step q F H L F0 H0 Lw := st0.sub bw
    have stn := Step.new (o := .lst []) gw np
    have stq := (stw.trans stn).andT
    -- what stands ahead of the turn i: acc made so far, at Dd
    refine ⟨fun i m H' => m = xs.length - i ∧ ∃ F' τ' L' vs acc La rest, (∀ a, F0 a → F' a) ∧ (∀ a, F0 a → H' a = H0 a) ∧ SR P w K F' H' (wipe σ own) τ' L' ∧ H' Dd = some (.lst vs) ∧ VRs P w K F' H' vs acc La ∧ Step q F H L F' H' (L' ++ (La ++ [Dd])) ∧
        lcL T C E own (xs.drop i) τ' = some (rest, τ9) ∧ acc ++ rest = ys, ⟨xs.length, rfl, F0, wipeM τ0 own, Lw, [], [], [], ys, fun _ z => z, fun a ha => ?_, sw.stepQ stn gw.ft, upd_same, .nil, stq, e9, rfl⟩, ?_⟩
    · exact upd_ne fun z => gw.ft a ha (z ▸ np)
    rintro i m H1 ⟨rfl, F1, τ1, L1, vs, acc, La, rest, fs, fh, s1, hD, hacc, st1, h1, hys⟩
    have g1a := st1.good
    have g1 : Good F1 H1 L1 := g1a.sub (Sub.left _ _)
    cases hx : xs[i]? with
    | none =>
      have hl : xs.length ≤ i := List.getElem?_eq_none_iff.mp hx
      rw [List.drop_eq_nil_of_le hl] at h1
      cases h1
      rw [List.append_nil] at hys
      subst hys
      refine .inl ⟨(j0.2 F1 H1 fs fh g1.ft i).2 hl, ?_⟩
      obtain ⟨L2, s2, b2⟩ := SR.unwip own s1
      have ew : wipeM τ9 own = τ9 := by
        -- the end's slots are wiped already
        have key : ∀ (l : List Val) (τ : Sl) (z : List Val × Sl), wipeM τ own = τ → lcL T C E own l τ = some z → wipeM z.2 own = z.2 := by
          have idem : ∀ τ : Sl, wipeM (wipeM τ own) own = wipeM τ own := by
            intro τ
            have gen : ∀ vs : List Nat, ∀ τ : Sl, (∀ v ∈ vs, v < τ.length → τ[v]? = some none) → wipeM τ vs = τ := by
              intro vs
              induction vs with
              | nil => intro τ _; rfl
              | cons v vs ih =>
                intro τ hv
                show (wipeM τ vs).set v none = τ
                rw [ih τ fun u hu => hv u (List.mem_cons_of_mem _ hu)]
                refine List.ext_getElem? fun j => ?_
                by_cases hj : v = j
                · subst hj
                  rcases Nat.lt_or_ge v τ.length with c | c
                  · rw [List.getElem?_set_self c, hv v List.mem_cons_self c]
                  · rw [List.set_eq_of_length_le c]
                · rw [List.getElem?_set_ne hj]
            refine gen own _ fun v hv hl => ?_
            have gg : ∀ vs : List Nat, v ∈ vs → v < τ.length → (wipeM τ vs)[v]? = some none := by
              intro vs
              induction vs with
              | nil => intro z; exact nomatch z
              | cons u us ih =>
                intro hm hl
                show ((wipeM τ us).set u none)[v]? = some none
                by_cases hu : u = v
                · subst hu
                  rw [List.getElem?_set_self (by rw [wipeM_length]; exact hl)]
                · rw [List.getElem?_set_ne hu]
                  exact ih ((List.mem_cons.mp hm).elim (fun z => absurd z.symm hu) id) hl
            exact gg own hv (by rw [wipeM_length] at hl; exact hl)
          intro l
          induction l with
          | nil => intro τ z hw e; cases e; exact hw
          | cons x l ih =>
            intro τ z hw e
            obtain ⟨τa, _, e⟩ := bind_eq e
            obtain ⟨⟨c, τb⟩, _, e⟩ := bind_eq e
            cases c with
            | true =>
              simp only [if_true] at e
              obtain ⟨⟨y, τc⟩, _, e⟩ := bind_eq e
              obtain ⟨z2, e2, e⟩ := bind_eq e
              cases e
              exact ih _ z2 (idem _) e2
            | false =>
              simp only [Bool.false_eq_true, if_false] at e
              exact ih _ z (idem _) e
        have h0 : wipeM (wipeM τ0 own) own = wipeM τ0 own := by
          have z := key [] (wipeM τ0 own) ([], wipeM τ0 own)
          -- wiped twice is wiped once
          have gen : ∀ vs : List Nat, ∀ τ : Sl, (∀ v ∈ vs, v < τ.length → τ[v]? = some none) → wipeM τ vs = τ := by
            intro vs
            induction vs with
            | nil => intro τ _; rfl
            | cons v vs ih =>
              intro τ hv
              show (wipeM τ vs).set v none = τ
              rw [ih τ fun u hu => hv u (List.mem_cons_of_mem _ hu)]
              refine List.ext_getElem? fun j => ?_
              by_cases hj : v = j
              · subst hj
                rcases Nat.lt_or_ge v τ.length with c | c
                · rw [List.getElem?_set_self c, hv v List.mem_cons_self c]
                · rw [List.set_eq_of_length_le c]
              · rw [List.getElem?_set_ne hj]
          refine gen own _ fun v hv hl => ?_
          have gg : ∀ vs : List Nat, v ∈ vs → v < τ0.length → (wipeM τ0 vs)[v]? = some none := by
            intro vs
            induction vs with
            | nil => intro z; exact nomatch z
            | cons u us ih =>
              intro hm hl
              show ((wipeM τ0 us).set u none)[v]? = some none
              by_cases hu : u = v
              · subst hu
                rw [List.getElem?_set_self (by rw [wipeM_length]; exact hl)]
              · rw [List.getElem?_set_ne hu]
                exact ih ((List.mem_cons.mp hm).elim (fun z => absurd z.symm hu) id) hl
          exact gg own hv (by rw [wipeM_length] at hl; exact hl)
        exact key xs _ _ h0 e9
      rw [ew] at s2
      have hA : At F1 H1 true Dd (.lst vs) La (Dd :: La) := by
        show (if true = true then _ else _)
        rw [if_pos rfl]
        exact ⟨hD, rfl⟩
      refine post _ F1 H1 L2 (Dd :: La) (.lst hA hacc) s2 (st1.sub (b2.app (Sub.of_perm ?_)))
      exact (List.perm_append_comm (l₁ := [Dd]) (l₂ := La))
    | some x =>
      have hi' : i < xs.length := by
        rcases Nat.lt_or_ge i xs.length with c | c
        · exact c
        · rw [List.getElem?_eq_none c] at hx; cases hx
      have hd : xs.drop i = x :: xs.drop (i + 1) := by
        rw [List.drop_eq_getElem_cons hi']
        rw [List.getElem?_eq_getElem hi'] at hx
        rw [Option.some.inj hx]
      rw [hd] at h1
      obtain ⟨τ2, e2, h1⟩ := bind_eq h1
      obtain ⟨⟨c, τ3⟩, e3, h1⟩ := bind_eq h1
      obtain ⟨go, yl⟩ := (j0.2 F1 H1 fs fh g1.ft i).1 x hx
      refine .inr ⟨go, fun H' => ∃ F' τ' L' vs acc La rest, (∀ a, F0 a → F' a) ∧ (∀ a, F0 a → H' a = H0 a) ∧ SR P w K F' H' (wipe σ own) τ' L' ∧ H' Dd = some (.lst vs) ∧ VRs P w K F' H' vs acc La ∧ Step q F H L F' H' (L' ++ (La ++ [Dd])) ∧
          lcL T C E own (xs.drop (i + 1)) τ' = some (rest, τ9) ∧ acc ++ rest = ys, fun H' h => ⟨xs.length - (i + 1), by omega, rfl, h⟩, fun v H2 y => ?_⟩
      obtain ⟨F2, hv, st2⟩ := yl v H2 y
      -- the item: what was made so far stands
      have st2L := st2.ext0 g1a
      have s2 : SR P w K F2 H2 (wipe σ own) τ1 L1 := s1.stepQ st2 g1.ft
      have hacc2 := hacc.stepQ st2 g1.ft
      have hD2 : H2 Dd = some (.lst vs) := (st2.keep Dd (by rw [hD]; exact fun z => nomatch z)).trans hD
      have g2a : Good F2 H2 (L1 ++ (La ++ [Dd])) := st2L.good
      have g2 : Good F2 H2 L1 := g2a.sub (Sub.left _ _)
      have stA := (st1.trans st2L).andT
      refine ⟨F2, τ1, L1, x, [], τ2, s2, by rw [List.append_nil]; exact g2, hv, e2, fun σ3 L3 s3 sb k3 => ?_⟩
      rw [List.append_nil] at sb
      have k3' : KeepO own (wipe σ own) σ3 := ⟨k3.1, fun j hj => k3.2 j fun z => hj (ho j z)⟩
      have wk : wipe σ3 own = wipe σ own := by
        rw [wipe_keep k3']
        refine List.ext_getElem? fun j => ?_
        have e1 := wipe_get (σ := wipe σ own) own j
        have e2 := wipe_get (σ := σ) own j
        rw [e1, e2]
        by_cases hj : j ∈ own
        · simp only [if_pos hj, Option.map_map]
          rfl
        · simp only [if_neg hj]
      refine ⟨by rw [wk, ← wk, wk], ?_⟩
      have g3a : Good F2 H2 (L3 ++ (La ++ [Dd])) := g2a.sub (sb.app (Sub.refl _))
      have stB : Step q F H L F2 H2 (L3 ++ (La ++ [Dd])) := stA.sub (sb.app (Sub.refl _))
      have f2s : ∀ a, F0 a → F2 a := fun a ha => st2.fs a (fs a ha)
      have f2h : ∀ a, F0 a → H2 a = H0 a := fun a ha => (st2.keep a (g1.ft a (fs a ha))).trans (fh a ha)
      -- a step from there on
      refine ⟨F2, τ2, L3, c, τ3, s3, g3a.sub (Sub.left _ _), e3, fun F4 H4 L4 s4 st4 => ?_⟩
      have g3 := g3a.sub (Sub.left L3 (La ++ [Dd]))
      have dj := (List.nodup_append.mp g3a.nd).2.2
      have nD : Dd ∉ L3 := fun z => dj Dd z Dd (List.mem_append_right _ (List.mem_singleton.mpr rfl)) rfl
      have hD4 : H4 Dd = some (.lst vs) := (st4.kp Dd (by rw [hD2]; exact fun z => nomatch z) nD).trans hD2
      have hacc4 : VRs P w K F4 H4 vs acc La := hacc2.stepR st4 g3.ft g3.nf fun a ha z => dj a z a (List.mem_append_left _ ha) rfl
      have stC : Step q F H L F4 H4 (L4 ++ (La ++ [Dd])) := (stB.trans (st4.frame g3a)).andS
      have f4s : ∀ a, F0 a → F4 a := fun a ha => st4.fs a (f2s a ha)
      have f4h : ∀ a, F0 a → H4 a = H0 a := fun a ha => (st4.kp a (g3.ft a (f2s a ha)) fun z => g3.nf a z (f2s a ha)).trans (f2h a ha)
      -- back to the wiped slots
      have back : ∀ {F' : Addr → Prop} {H' : Hp} {τ' : Sl} {L' : List Addr}, SR P w K F' H' σ3 τ' L' → ∃ L2, SR P w K F' H' (wipe σ own) (wipeM τ' own) L2 ∧ Sub L2 L' := fun s' => by
        obtain ⟨L2, a, b⟩ := s'.wip own
        rw [wk] at a
        exact ⟨L2, a, b⟩
      cases c with
      | false =>
        simp only [Bool.false_eq_true, if_false] at h1 ⊢
        obtain ⟨L5, s5, b5⟩ := back s4
        exact ⟨F4, _, L5, vs, acc, La, rest, f4s, f4h, s5, hD4, hacc4, stC.sub (b5.app (Sub.refl _)), h1, hys⟩
      | true =>
        simp only [if_true] at h1 ⊢
        obtain ⟨⟨yv, τ5⟩, e5, h1⟩ := bind_eq h1
        obtain ⟨⟨rest', τ6⟩, e6, h1⟩ := bind_eq h1
        cases h1
        have g4 : Good F4 H4 (L4 ++ (La ++ [Dd])) := stC.good
        refine ⟨F4, τ3, L4, yv, τ5, s4, st4.good, e5, fun u F5 H5 L5 Lu hu s5 st5 => ?_⟩
        have dj4 := (List.nodup_append.mp g4.nd).2.2
        have nD4 : Dd ∉ L4 := fun z => dj4 Dd z Dd (List.mem_append_right _ (List.mem_singleton.mpr rfl)) rfl
        have hD5 : H5 Dd = some (.lst vs) := (st5.kp Dd (by rw [hD4]; exact fun z => nomatch z) nD4).trans hD4
        have hacc5 : VRs P w K F5 H5 vs acc La := hacc4.stepR st5 st4.good.ft st4.good.nf fun a ha z => dj4 a z a (List.mem_append_left _ ha) rfl
        have stD : Step q F H L F5 H5 ((L5 ++ Lu) ++ (La ++ [Dd])) := (stC.trans (st5.frame g4)).andS
        have gD := stD.good
        have lt : vs.length < sizeLine := by
          rw [hacc.length]
          have e : (acc ++ (yv :: rest')).length = ys.length := congrArg List.length hys
          rw [List.length_append, List.length_cons] at e
          omega
        refine ⟨vs, hD5, lt, ?_⟩
        -- the item is put at the end
        have ndd := (List.nodup_append.mp gD.nd)
        have nF : ∀ a, F5 a → a ≠ Dd := fun a ha e => gD.nf Dd (List.mem_append_right _ (List.mem_append_right _ (List.mem_singleton.mpr rfl))) (e ▸ ha)
        have nX : ∀ a ∈ L5 ++ Lu, a ≠ Dd := fun a ha e => ndd.2.2 a ha Dd (List.mem_append_right _ (List.mem_singleton.mpr rfl)) e
        have nA : ∀ a ∈ La, a ≠ Dd := fun a ha e => (List.nodup_append.mp ndd.2.1).2.2 a ha Dd (List.mem_singleton.mpr rfl) e
        have ne : ∀ a, a ≠ Dd → upd H5 Dd (.lst (vs ++ [u])) a = H5 a := fun a h => upd_ne h
        have s6 : SR P w K F5 (upd H5 Dd (.lst (vs ++ [u]))) σ3 τ5 L5 := s5.mono (fun _ z => z) (fun a ha => ne a (nF a ha)) fun a ha => ne a (nX a (List.mem_append_left _ ha))
        have hacc6 : VRs P w K F5 (upd H5 Dd (.lst (vs ++ [u]))) (vs ++ [u]) (acc ++ [yv]) (La ++ (Lu ++ [])) :=
          VRs.append (hacc5.mono (fun _ z => z) (fun a ha => ne a (nF a ha)) fun a ha => ne a (nA a ha)) (.cons (hu.mono (fun _ z => z) (fun a ha => ne a (nF a ha)) fun a ha => ne a (nX a (List.mem_append_right _ ha))) .nil)
        rw [List.append_nil] at hacc6
        obtain ⟨L7, s7, b7⟩ := back s6
        have pm : ((L5 ++ Lu) ++ (La ++ [Dd])).Perm (L5 ++ ((La ++ Lu) ++ [Dd])) := by
          rw [List.append_assoc]
          refine List.Perm.append_left L5 ?_
          rw [← List.append_assoc]
          exact List.perm_append_comm.append_right _
        have stE : Step q F H L F5 (upd H5 Dd (.lst (vs ++ [u]))) ((L5 ++ Lu) ++ (La ++ [Dd])) := by
          have tD : H5 Dd ≠ none := by rw [hD5]; exact fun z => nomatch z
          have fresh : H Dd = none := by
            -- Dd was new when the comprehension began
            exact Classical.byContradiction fun z => st0.tr Dd z np
          refine ⟨⟨gD.nd, gD.nf, fun a ha => by rw [ne a (nF a ha)]; exact gD.ft a ha, fun a ha => ?_⟩, stD.fs, fun a h1 h2 => ?_, fun a h => ?_, stD.mem, stD.fm, fun hq a ha h => ?_⟩
          · by_cases hd : a = Dd
            · subst hd; rw [upd_same]; exact fun z => nomatch z
            · rw [ne a hd]; exact gD.lt a ha
          · by_cases hd : a = Dd
            · subst hd; exact absurd fresh h1
            · rw [ne a hd]; exact stD.kp a h1 h2
          · by_cases hd : a = Dd
            · subst hd; rw [upd_same]; exact fun z => nomatch z
            · rw [ne a hd]; exact stD.tr a h
          · by_cases hd : a = Dd
            · subst hd; exact absurd fresh h
            · rw [ne a hd]; exact stD.qk hq a ha h
        refine ⟨F5, _, L7, vs ++ [u], acc ++ [yv], La ++ Lu, rest', fun a ha => st5.fs a (f4s a ha), fun a ha => ?_, s7, upd_same, hacc6, stE.sub ((b7.app (Sub.refl _)).trans (Sub.of_perm pm.symm)), e6, by rw [List.append_assoc]; exact hys⟩
        rw [ne a (nF a (st5.fs a (f4s a ha)))]
        exact (st5.kp a (st4.good.ft a (f4s a ha)) fun z => st4.good.nf a z (f4s a ha)).trans (f4h a ha)
  · exact nomatch ev
end
section
variable {X : Cx} {q : Bool} {n : Nat}
theorem se_lc {elt tg iter : Expr} {ifs : List Expr} {scope : Scope} {own : List (Str × Nat)} {own' : List Nat} {pos : Pos} {I : Evs} {T : Tg} {C : Tv} {E : Ev} (hc : X.calm = true) (hN : X.N.Nodup) (hi : SI q X tg iter I) (ok : BlkOk X.N X.env.scope scope own) (ho : ∀ j ∈ own', j ∈ own.map (·.2))
    (hg : ∀ (s : Shared) (H : Hp) (C : Addr) (cl : List (Str × Addr)) (fp : List Addr), SG own' (X.blk s H scope (compEnvC scope cl C X.env) fp) tg T) (ht : ∀ (s : Shared) (H : Hp) (C' : Addr) (cl : List (Str × Addr)) (fp : List Addr), STs q (X.blk s H scope (compEnvC scope cl C' X.env) fp) ifs C)
    (he : ∀ (s : Shared) (H : Hp) (C : Addr) (cl : List (Str × Addr)) (fp : List Addr), SE q (X.blk s H scope (compEnvC scope cl C X.env) fp) elt E) (hs : ∀ x, foldedSetIterable iter X.env x = Pure.pure x := by intro _; rfl) :
    SE q X (.ListComp elt [⟨tg, iter, ifs, 0⟩] scope pos) (lcM I T C E (own.map (·.2))) := peI (pe_lc hc hN hi ok hg ht he hs) (tLc_ok ho)
theorem ss_setLc {i : Nat} {y : Str} {py : Pos} {elt tg iter : Expr} {ifs : List Expr} {scope : Scope} {own : List (Str × Nat)} {own' : List Nat} {pos spos : Pos} {I : Evs} {T : Tg} {C : Tv} {E : Ev} (hc : X.calm = true) (hN : X.N.Nodup) (hni : n ≤ i) (hi : SI q X tg iter I) (ok : BlkOk X.N X.env.scope scope own) (ho : ∀ j ∈ own', j ∈ own.map (·.2))
    (hg : ∀ (s : Shared) (H : Hp) (C : Addr) (cl : List (Str × Addr)) (fp : List Addr), SG own' (X.blk s H scope (compEnvC scope cl C X.env) fp) tg T) (ht : ∀ (s : Shared) (H : Hp) (C' : Addr) (cl : List (Str × Addr)) (fp : List Addr), STs q (X.blk s H scope (compEnvC scope cl C' X.env) fp) ifs C)
    (he : ∀ (s : Shared) (H : Hp) (C : Addr) (cl : List (Str × Addr)) (fp : List Addr), SE q (X.blk s H scope (compEnvC scope cl C X.env) fp) elt E)
    (hy : X.N[i]? = some y := by rfl) (hyl : X.env.scope.names.lookup y = some .local := by rfl)
    (hsw : swapsWith (.ListComp elt [⟨tg, iter, ifs, 0⟩] scope pos) (some (.Name y py)) spos.line X.env = Pure.pure true := by exact sw_true rfl rfl rfl (by decide +kernel)) (hs : ∀ x, foldedSetIterable iter X.env x = Pure.pure x := by intro _; rfl) :
    SS n X (.Assign [.Name y py] (.ListComp elt [⟨tg, iter, ifs, 0⟩] scope pos) spos) (setM i (lcM I T C E (own.map (·.2)))) :=
  psI (ps_setLc hc hN hy hyl hsw hi ok hg ht he hs) fun D σ H ⟨F, τ, L, fl, τe, s, g, ev, post⟩ => by
    obtain ⟨⟨y1, τ1⟩, e1, ev⟩ := bind_eq ev
    cases ev
    refine tLc_ok ho σ H _ ⟨F, τ, L, y1, τ1, s, g, e1, fun v F1 H1 L1 Lr h1 s1 st1 => ?_⟩
    obtain ⟨L2, s2, sb⟩ := s1.put (i := i) h1
    exact post _ F1 H1 L2 s2 (st1.sub sb).weak (Keep.set hni)
end
end MV
end

section
set_option maxHeartbeats 4000000
/-! operations of Python on values by content -/
namespace MV
open PySem PySem.Spec PyProof.Rows L2

/-- what an operation on two values by content asks, and gives: r of the layer -/
def rG (P : Program) (w : World) (K : PySem.W.Frag) (g : Val → Val → Option Val) : R2 := fun vx vy H Q => ∃ F x y Lx Ly z, (∀ a, F a → H a ≠ none) ∧ VR P w K F H vx x Lx ∧ VR P w K F H vy y Ly ∧ g x y = some z ∧
  ∀ v F' H' Lr, VR P w K F' H' v z Lr → Step true F H [] F' H' Lr → Q v H'
def rG1 (P : Program) (w : World) (K : PySem.W.Frag) (g : Val → Option Val) : V → Hp → VK → Prop := fun vx H Q => ∃ F x Lx z, (∀ a, F a → H a ≠ none) ∧ VR P w K F H vx x Lx ∧ g x = some z ∧
  ∀ v F' H' Lr, VR P w K F' H' v z Lr → Step true F H [] F' H' Lr → Q v H'
def rGN (P : Program) (w : World) (K : PySem.W.Frag) (g : List Val → Option Val) : List V → Hp → VK → Prop := fun vs H Q => ∃ F xs Lx z, (∀ a, F a → H a ≠ none) ∧ VRs P w K F H vs xs Lx ∧ g xs = some z ∧
  ∀ v F' H' Lr, VR P w K F' H' v z Lr → Step true F H [] F' H' Lr → Q v H'
theorem mG {P w K} (g) : M2 P w K (rG P w K g) g := fun F H vx vy x y Lx Ly z Q ft hx hy e post => ⟨F, x, y, Lx, Ly, z, ft, hx, hy, e, post⟩
theorem mG1 {P w K} (g) : M1 P w K (rG1 P w K g) g := fun F H vx x Lx z Q ft hx e post => ⟨F, x, Lx, z, ft, hx, e, post⟩
theorem mGN {P w K} (g) : MN P w K (rGN P w K g) g := fun F H vs xs Lx z Q ft hx e post => ⟨F, xs, Lx, z, ft, hx, e, post⟩

section
variable {P : Program} {w : World} {K : PySem.W.Frag} {F : Addr → Prop} {H : Hp}
/-- a scalar comes, nothing else happens -/
theorem post_id {z : Val} {v : V} {Q : VK} (ft : ∀ a, F a → H a ≠ none) (post : ∀ v F' H' Lr, VR P w K F' H' v z Lr → Step true F H [] F' H' Lr → Q v H') (h : VR P w K F H v z []) : Q v H := post v F H [] h (Step.id ft)
/-- a new tuple of what stands -/
theorem post_tup {xs : List Val} {vs : List V} {p : Addr} {Q : VK} (ft : ∀ a, F a → H a ≠ none) (post : ∀ v F' H' Lr, VR P w K F' H' v (.tup xs) Lr → Step true F H [] F' H' Lr → Q v H') (h : VRs P w K F H vs xs []) (np : H p = none) : Q (.ref p) (upd H p (.tup vs)) := by
  have st := Step.newF (o := .tup vs) (good_nil ft) np
  exact post _ _ _ [] (.tup (.inl ⟨.inr rfl, upd_same⟩) (h.stepQ st ft)) st
/-- a new list of what stands -/
theorem post_lst {xs : List Val} {vs : List V} {p : Addr} {Q : VK} (ft : ∀ a, F a → H a ≠ none) (post : ∀ v F' H' Lr, VR P w K F' H' v (.lst true xs) Lr → Step true F H [] F' H' Lr → Q v H') (h : VRs P w K F H vs xs []) (np : H p = none) : Q (.ref p) (upd H p (.lst vs)) := by
  have st := Step.new (o := .lst vs) (good_nil ft) np
  have hA : At F (upd H p (.lst vs)) true p (.lst vs) [] [p] := by
    show (if true = true then _ else _)
    rw [if_pos rfl]
    exact ⟨upd_same, rfl⟩
  exact post _ _ _ [p] (.lst hA (h.stepQ st ft)) st
theorem VR.lst_inv {v : V} {m : Bool} {xs : List Val} {L : List Addr} (h : VR P w K F H v (.lst m xs) L) : ∃ a vs L0, v = .ref a ∧ H a = some (.lst vs) ∧ VRs P w K F H vs xs L0 := by
  cases h with
  | @lst a _ vs _ L0 _ hA hvs =>
    refine ⟨a, vs, L0, rfl, ?_, hvs⟩
    unfold At at hA
    cases m with
    | true => simp only [if_true] at hA; exact hA.1
    | false => simp only [Bool.false_eq_true, if_false] at hA; exact hA.2.1
theorem VR.tup_inv {v : V} {xs : List Val} {L : List Addr} (h : VR P w K F H v (.tup xs) L) : ∃ a vs, v = .ref a ∧ TupAt K F H a vs ∧ VRs P w K F H vs xs L := by
  cases h with
  | @tup a vs _ _ hA hvs => exact ⟨a, vs, rfl, hA, hvs⟩
theorem VRs.get' {vs : List V} {xs : List Val} {i : Nat} {v : V} {x : Val} (h : VRs P w K F H vs xs []) (hv : vs[i]? = some v) (hx : xs[i]? = some x) : VR P w K F H v x [] := by
  obtain ⟨u, L1, e1, e2, sb⟩ := h.get hx
  have en : L1 = [] := List.sublist_nil.mp sb
  subst en
  rw [hv] at e1
  rw [Option.some.inj e1]
  exact e2
theorem VRs.of_get : ∀ {vs : List V} {xs : List Val}, vs.length = xs.length → (∀ (i : Nat) (v : V) (x : Val), vs[i]? = some v → xs[i]? = some x → VR P w K F H v x []) → VRs P w K F H vs xs []
  | [], [], _, _ => .nil
  | v :: vs, x :: xs, hl, h => by
    have h0 := h 0 v x rfl rfl
    have ht := VRs.of_get (vs := vs) (xs := xs) (by simpa using hl) fun i u y e1 e2 => h (i + 1) u y (by simpa using e1) (by simpa using e2)
    exact .cons h0 ht
  | [], _ :: _, hl, _ => nomatch hl
  | _ :: _, [], hl, _ => nomatch hl
theorem VRs.take {vs : List V} {xs : List Val} (n : Nat) (h : VRs P w K F H vs xs []) : VRs P w K F H (vs.take n) (xs.take n) [] := by
  refine .of_get (by rw [List.length_take, List.length_take, h.length]) fun i v x e1 e2 => ?_
  rw [List.getElem?_take] at e1 e2
  split at e1
  · rename_i hi
    rw [if_pos hi] at e2
    exact h.get' e1 e2
  · exact nomatch e1
theorem VRs.drop {vs : List V} {xs : List Val} (n : Nat) (h : VRs P w K F H vs xs []) : VRs P w K F H (vs.drop n) (xs.drop n) [] := by
  refine .of_get (by rw [List.length_drop, List.length_drop, h.length]) fun i v x e1 e2 => ?_
  rw [List.getElem?_drop] at e1 e2
  exact h.get' e1 e2
theorem VRs.reverse {vs : List V} {xs : List Val} (h : VRs P w K F H vs xs []) : VRs P w K F H vs.reverse xs.reverse [] := by
  refine .of_get (by rw [List.length_reverse, List.length_reverse, h.length]) fun i v x e1 e2 => ?_
  have hi : i < vs.length := by
    rcases Nat.lt_or_ge i vs.length with c | c
    · exact c
    · rw [List.getElem?_eq_none (by simpa using c)] at e1; cases e1
  rw [List.getElem?_reverse hi] at e1
  rw [List.getElem?_reverse (by rw [← h.length]; exact hi), ← h.length] at e2
  exact h.get' e1 e2
theorem VRs.rep {vs : List V} {xs : List Val} (h : VRs P w K F H vs xs []) : ∀ n : Nat, VRs P w K F H (List.replicate n vs).flatten (List.replicate n xs).flatten []
  | 0 => .nil
  | n + 1 => by
    rw [List.replicate_succ, List.replicate_succ, List.flatten_cons, List.flatten_cons]
    exact h.append (VRs.rep h n)
theorem VR.dp : ∀ {v : V} {x : Val} {L : List Addr}, VR P w K F H v x L → x.toD.canLay0 = true → Dp K H v x.toD := by
  have key : ∀ n : Nat, (∀ (x : Val), sizeOf x < n → ∀ (v : V) (L : List Addr), VR P w K F H v x L → x.toD.canLay0 = true → Dp K H v x.toD) := by
    intro n
    induction n with
    | zero => intro x hx; exact absurd hx (Nat.not_lt_zero _)
    | succ n ih =>
      intro x hx v L h c
      have list : ∀ (xs : List Val), (∀ y ∈ xs, sizeOf y < n) → ∀ (vs : List V) (L : List Addr), VRs P w K F H vs xs L → PyData.canLayAll0 (toDL xs) = true → DpAll K H vs (toDL xs) := by
        intro xs
        induction xs with
        | nil => intro _ vs L h _; cases h; exact .nil
        | cons y ys ihl =>
          intro hs vs L h c
          simp only [toDL, PyData.canLayAll0, Bool.and_eq_true] at c
          cases h with
          | cons h1 h2 => exact .cons (ih y (hs y List.mem_cons_self) _ _ h1 c.1) (ihl (fun z hz => hs z (List.mem_cons_of_mem _ hz)) _ _ h2 c.2)
      cases h with
      | non => exact .non
      | bl b => exact .bl b
      | int i => exact .int i
      | str z => exact .str z
      | @tup a vs xs _ hA hvs =>
        simp only [Val.toD, PyData.canLay0] at c ⊢
        refine .tup hA.sq (list xs (fun y hy => ?_) vs _ hvs c)
        have := List.sizeOf_lt_of_mem hy
        simp only [Val.tup.sizeOf_spec] at hx
        omega
      | @lst a m vs xs L0 _ hA hvs =>
        simp only [Val.toD, PyData.canLay0] at c ⊢
        have hq : H a = some (.lst vs) := by
          unfold At at hA
          cases m with
          | true => simp only [if_true] at hA; exact hA.1
          | false => simp only [Bool.false_eq_true, if_false] at hA; exact hA.2.1
        refine .lst (SqL.of hq) (list xs (fun y hy => ?_) vs _ hvs c)
        have := List.sizeOf_lt_of_mem hy
        simp only [Val.lst.sizeOf_spec] at hx
        omega
      | dK _ _ _ => simp only [Val.toD, PyData.canLay0] at c; exact nomatch c
      | dT _ _ _ _ _ => simp only [Val.toD, PyData.canLay0] at c; exact nomatch c
      | scr _ => simp only [Val.toD, PyData.canLay0] at c; exact nomatch c
  exact fun {v x L} h c => key (sizeOf x + 1) x (Nat.lt_succ_self _) v L h c
end

/-! arithmetic -/
def mulOk (i j : Int) : Bool := decide (i.natAbs < 2 ^ 64) || decide (j.natAbs < 2 ^ 64) || decide (i.natAbs.log2 + j.natAbs.log2 < 1000000)
def addV : Val → Val → Option Val
  | .int i, .int j => some (.int (i + j))
  | .lst _ xs, .lst _ ys => if (pureL xs && pureL ys && decide (xs.length + ys.length ≤ sizeLine)) = true then some (.lst true (xs ++ ys)) else none
  | .tup xs, .tup ys => if (pureL xs && pureL ys && decide (xs.length + ys.length ≤ sizeLine)) = true then some (.tup (xs ++ ys)) else none
  | .str a, .str b => if a.length + b.length ≤ sizeLine then some (.str (a.append b)) else none
  | _, _ => none
def subV : Val → Val → Option Val
  | .int i, .int j => some (.int (i - j))
  | _, _ => none
def mulV : Val → Val → Option Val
  | .int i, .int j => if mulOk i j = true then some (.int (i * j)) else none
  | .lst _ xs, .int k => if (pureL xs && decide (-(2 ^ 63) ≤ k) && decide (k < 2 ^ 63) && decide (xs.length * k.toNat ≤ sizeLine)) = true then some (.lst true (List.replicate k.toNat xs).flatten) else none
  | .tup xs, .int k => if (pureL xs && decide (1 ≤ k) && decide (k ≤ 1000) && decide (xs.length ≤ 1000)) = true then some (.tup (List.replicate k.toNat xs).flatten) else none
  | _, _ => none
def fdivV : Val → Val → Option Val
  | .int i, .int j => if (decide (0 < j) && decide (j.natAbs.log2 < 9000)) = true then some (.int (i / j)) else none
  | _, _ => none
def modV : Val → Val → Option Val
  | .int i, .int j => if decide (0 < j) = true then some (.int (i % j)) else none
  | _, _ => none
def powV : Val → Val → Option Val
  | .int i, .int j => if (decide (0 ≤ j) && decide (j ≤ 1000000) && decide (i.natAbs < 2 ^ 64)) = true then some (.int (i ^ j.toNat)) else none
  | _, _ => none
def negV : Val → Option Val
  | .int i => some (.int (-i))
  | _ => none

section
variable {X : Cx}
theorem op_subV : OpR X (binaryOp .Sub) (rG X.prog X.w X.K subV) := by
  intro pins s σ H vx vy v u Q I rx ry ⟨F, x, y, Lx, Ly, z, ft, hx, hy, e, post⟩
  unfold subV at e
  split at e
  · cases e
    cases hx; cases hy
    exact op_sub pins s σ H _ _ v u Q I rx ry ⟨_, _, rfl, rfl, post_id ft post (.int _)⟩
  · cases e
theorem op_modV : OpR X (binaryOp .Mod) (rG X.prog X.w X.K modV) := by
  intro pins s σ H vx vy v u Q I rx ry ⟨F, x, y, Lx, Ly, z, ft, hx, hy, e, post⟩
  unfold modV at e
  split at e
  · split at e
    · rename_i h0
      cases e
      cases hx; cases hy
      exact op_mod pins s σ H _ _ v u Q I rx ry ⟨_, _, rfl, rfl, of_decide_eq_true h0, post_id ft post (.int _)⟩
    · cases e
  · cases e
theorem op_fdivV : OpR X (binaryOp .FloorDiv) (rG X.prog X.w X.K fdivV) := by
  intro pins s σ H vx vy v u Q I rx ry ⟨F, x, y, Lx, Ly, z, ft, hx, hy, e, post⟩
  unfold fdivV at e
  split at e
  · split at e
    · rename_i h0
      rw [Bool.and_eq_true, decide_eq_true_eq, decide_eq_true_eq] at h0
      cases e
      cases hx; cases hy
      exact op_fdivW pins s σ H _ _ v u Q I rx ry ⟨_, _, rfl, rfl, h0, post_id ft post (.int _)⟩
    · cases e
  · cases e
theorem op_powV : OpR X (binaryOp .Pow) (rG X.prog X.w X.K powV) := by
  intro pins s σ H vx vy v u Q I rx ry ⟨F, x, y, Lx, Ly, z, ft, hx, hy, e, post⟩
  unfold powV at e
  split at e
  · split at e
    · rename_i h0
      rw [Bool.and_eq_true, Bool.and_eq_true, decide_eq_true_eq, decide_eq_true_eq, decide_eq_true_eq] at h0
      cases e
      cases hx; cases hy
      exact op_pow pins s σ H _ _ v u Q I rx ry ⟨_, _, rfl, rfl, ⟨h0.1.1, h0.1.2, h0.2⟩, post_id ft post (.int _)⟩
    · cases e
  · cases e
theorem un_negV : UnR X (unaryOp .USub) (rG1 X.prog X.w X.K negV) := by
  intro pins s σ H vx v Q I rx ⟨F, x, Lx, z, ft, hx, e, post⟩
  unfold negV at e
  split at e
  · cases e
    cases hx
    exact un_neg pins s σ H _ v Q I rx ⟨_, rfl, post_id ft post (.int _)⟩
  · cases e
theorem op_addV : OpR X (binaryOp .Add) (rG X.prog X.w X.K addV) := by
  intro pins s σ H vx vy v u Q I rx ry ⟨F, x, y, Lx, Ly, z, ft, hx, hy, e, post⟩
  unfold addV at e
  split at e
  · cases e
    cases hx; cases hy
    exact op_add pins s σ H _ _ v u Q I rx ry ⟨_, _, rfl, rfl, post_id ft post (.int _)⟩
  · split at e
    · rename_i h0
      simp only [Bool.and_eq_true, decide_eq_true_eq] at h0
      cases e
      obtain ⟨a, vs, L0, rfl, ha, hvs⟩ := hx.lst_inv
      obtain ⟨b, ws, L1, rfl, hb, hws⟩ := hy.lst_inv
      have h1 := hvs.pureL h0.1.1
      have h2 := hws.pureL h0.1.2
      exact op_cat pins s σ H _ _ v u Q I rx ry ⟨a, b, vs, ws, rfl, rfl, ha, hb, by rw [h1.length, h2.length]; exact h0.2, fun p np => post_lst ft post (h1.append h2) np⟩
    · cases e
  · split at e
    · rename_i h0
      simp only [Bool.and_eq_true, decide_eq_true_eq] at h0
      cases e
      obtain ⟨a, vs, rfl, ha, hvs⟩ := hx.tup_inv
      obtain ⟨b, ws, rfl, hb, hws⟩ := hy.tup_inv
      have h1 := hvs.pureL h0.1.1
      have h2 := hws.pureL h0.1.2
      refine op_catA pins s σ H _ _ v u Q I rx ry ⟨a, b, vs, ws, rfl, rfl, ha.sq, hb.sq, by rw [h1.length, h2.length]; exact h0.2, fun en => ?_, fun _ en => ?_, fun _ _ p np => post_tup ft post (h1.append h2) np⟩
      · subst en
        cases h1
        exact post_id ft post (.tup hb h2)
      · subst en
        cases h2
        rw [List.append_nil] at post
        exact post_id ft post (.tup ha h1)
    · cases e
  · split at e
    · rename_i h0
      cases e
      cases hx; cases hy
      exact op_add_str pins s σ H _ _ v u Q I rx ry ⟨_, _, rfl, rfl, h0, post_id ft post (.str _)⟩
    · cases e
  · cases e
/-- t * 1, and the empty tuple times an int: the tuple itself -/
theorem tuple_mul1 (l : Addr) (items : Array Value) (n : Nat) (dd : Option Addr) (sl : Array (Option Value)) (x : Int) (u : Tok) (c0 : (decide (x < -(2 ^ 63)) || decide (x ≥ 2 ^ 63)) = false) (c1 : (items.isEmpty || x == 1) = true) :
    Meets (Builtin.«tuple.__mul__» ⟨[.ref l, .int x u], []⟩) (fun _ R s => s.heap.get? l = some { cls := .type "tuple", dict := dd, data := .seq items n, slots := sl } ∧ R (.ok (.ret (Value.ref l))) s) :=
  .of_wp fun prog w A R s h => by
    obtain ⟨hp, g, d, tk, os⟩ := s
    obtain ⟨hl, h⟩ := h
    have f1 := AutoSeq1.idx_int
    wp_walk using wpAny_loadPart' hl
    repeat (first
      | (refine wpAny_ite_false (decide_eq_false (by rw [c0]; exact Bool.false_ne_true)) ?_; wp_walk using wpAny_loadPart' hl)
      | (refine wpAny_ite_true (decide_eq_true (by rw [c1])) ?_; wp_walk using wpAny_loadPart' hl))
    exact ⟨_, rfl, h⟩
end
end MV
end

section
set_option maxHeartbeats 4000000
/-! operations of Python on values by content: products, comparisons, items, slices, what is built in -/
namespace MV
open PySem PySem.Spec PyProof.Rows L2

theorem hu64 {A : Around} {k : Nat} (hr : Room k A) : A.units + 65 < cLine := by have := hr.un; omega

def okD (x : Val) : Bool := SeqAt.shaped x.toD
def eqV : Val → Val → Option Val
  | .int i, .int j => some (.bl (i == j))
  | .str a, .str b => some (.bl (a == b))
  | .bl a, .bl b => some (.bl (a == b))
  | x, y => if (okD x && okD y) = true then some (.bl (PyData.eqv x.toD y.toD)) else none
def neV (x y : Val) : Option Val := (eqV x y).bind fun z => match z with
  | .bl b => some (.bl (!b))
  | _ => none
def ltV : Val → Val → Option Val
  | .int i, .int j => some (.bl (decide (i < j)))
  | .tup xs, .tup ys => if (okD (.tup xs) && okD (.tup ys) && PySem.W.alike (Val.tup xs).toD (Val.tup ys).toD) = true then some (.bl (PySem.W.dataLt (Val.tup xs).toD (Val.tup ys).toD)) else none
  | _, _ => none
def leV : Val → Val → Option Val
  | .int i, .int j => some (.bl (decide (i ≤ j)))
  | _, _ => none
def gtV : Val → Val → Option Val
  | .int i, .int j => some (.bl (decide (j < i)))
  | _, _ => none
def geV : Val → Val → Option Val
  | .int i, .int j => some (.bl (decide (j ≤ i)))
  | _, _ => none
def isV : Val → Val → Option Val
  | .bl a, .bl b => some (.bl (a == b))
  | .non, .non => some (.bl true)
  | _, .non => some (.bl false)
  | _, _ => none
def isntV (x y : Val) : Option Val := (isV x y).bind fun z => match z with
  | .bl b => some (.bl (!b))
  | _ => none
def inV2 : Val → Val → Option Val
  | x, .lst m ys => if (okD x && okD (.lst m ys)) = true then some (.bl (ys.any fun y => PyData.eqv y.toD x.toD)) else none
  | x, .tup ys => if (okD x && okD (.tup ys)) = true then some (.bl (ys.any fun y => PyData.eqv y.toD x.toD)) else none
  | _, _ => none
def notinV2 (x y : Val) : Option Val := (inV2 x y).bind fun z => match z with
  | .bl b => some (.bl (!b))
  | _ => none
def pureO (o : Option Val) : Option Val := o.bind fun x => if x.pure = true then some x else none
def idxV : Val → Val → Option Val
  | .lst _ xs, .int i => pureO (atI xs i)
  | .tup xs, .int i => pureO (atI xs i)
  | .scr ns, .int i => (atI ns i).map .int
  | _, _ => none

section
variable {P : Program} {w : World} {K : PySem.W.Frag} {F : Addr → Prop} {H : Hp}
theorem VR.not_non {v : V} {x : Val} {L : List Addr} (h : VR P w K F H v x L) (hx : x ≠ .non) : v ≠ .non := by
  intro e
  subst e
  cases h
  exact hx rfl
theorem atI_map {α β : Type} (f : α → β) (xs : List α) (i : Int) : atI (xs.map f) i = (atI xs i).map f := by
  unfold atI
  rw [List.length_map]
  cases ixN xs.length i with
  | none => rfl
  | some j => simp
theorem atI_some {α : Type} {xs : List α} {i : Int} {x : α} (h : atI xs i = some x) : ∃ j, ixN xs.length i = some j ∧ xs[j]? = some x := by
  unfold atI at h
  cases e : ixN xs.length i with
  | none => rw [e] at h; cases h
  | some j => rw [e] at h; exact ⟨j, rfl, h⟩
theorem VRs.atI {vs : List V} {xs : List Val} {L : List Addr} {i : Int} {x : Val} (h : VRs P w K F H vs xs L) (e : atI xs i = some x) (p : x.pure = true) : ∃ v, L2.atI vs i = some v ∧ VR P w K F H v x [] := by
  obtain ⟨j, e1, e2⟩ := atI_some e
  obtain ⟨v, L1, h1, h2, _⟩ := h.get e2
  refine ⟨v, ?_, h2.pureV p⟩
  unfold L2.atI
  rw [h.length, e1]
  exact h1
theorem pureO_some {o : Option Val} {x : Val} (h : pureO o = some x) : o = some x ∧ x.pure = true := by
  cases o with
  | none => cases h
  | some y =>
    have h' : (if y.pure = true then some y else none) = some x := h
    split at h'
    · rename_i hp
      cases h'
      exact ⟨rfl, hp⟩
    · cases h'
theorem okD_lay {x : Val} (h : okD x = true) : x.toD.canLay0 = true := SeqAt.canLay_of_shaped h
end
section
variable {X : Cx}
theorem op_mulV : OpR X (binaryOp .Mult) (rG X.prog X.w X.K mulV) := by
  intro pins s σ H vx vy v u Q I rx ry ⟨F, x, y, Lx, Ly, z, ft, hx, hy, e, post⟩
  unfold mulV at e
  split at e
  · split at e
    · rename_i i j h0
      cases e
      cases hx; cases hy
      have q : Q (.int (i * j)) H := post_id ft post (.int _)
      simp only [mulOk, Bool.or_eq_true, decide_eq_true_eq] at h0
      rcases h0 with (h0 | h0) | h0
      · exact op_mul pins s σ H _ _ v u Q I rx ry ⟨_, _, rfl, rfl, .inl ⟨by omega, by omega⟩, q⟩
      · exact op_mul pins s σ H _ _ v u Q I rx ry ⟨_, _, rfl, rfl, .inr ⟨by omega, by omega⟩, q⟩
      · exact op_mulW pins s σ H _ _ v u Q I rx ry ⟨_, _, rfl, rfl, h0, q⟩
    · cases e
  · split at e
    · rename_i k h0
      simp only [Bool.and_eq_true, decide_eq_true_eq] at h0
      cases e
      obtain ⟨a, vs, L0, rfl, ha, hvs⟩ := hx.lst_inv
      cases hy
      have h1 := hvs.pureL h0.1.1.1
      exact op_rep pins s σ H _ _ v u Q I rx ry ⟨a, k, vs, rfl, rfl, ha, h0.1.1.2, h0.1.2, by rw [h1.length]; exact h0.2, fun p np => post_lst ft post (h1.rep _) np⟩
    · cases e
  · split at e
    · rename_i xs k h0
      simp only [Bool.and_eq_true, decide_eq_true_eq] at h0
      cases e
      obtain ⟨a, vs, rfl, ha, hvs⟩ := hx.tup_inv
      cases hy
      have h1 := hvs.pureL h0.1.1.1
      by_cases hk : 2 ≤ k ∧ vs ≠ []
      · exact op_repT pins s σ H _ _ v u Q I rx ry ⟨a, k, vs, rfl, rfl, ha.sq, hk.2, hk.1, h0.1.2, by rw [h1.length]; exact h0.2, fun p np => post_tup ft post (h1.rep _) np⟩
      · -- the tuple itself
        have same : (List.replicate k.toNat xs).flatten = xs := by
          rcases Classical.not_and_iff_not_or_not.mp hk with c | c
          · have e1 : k.toNat = 1 := by omega
            rw [e1]
            simp
          · have e1 : vs = [] := Classical.not_not.mp c
            subst e1
            cases h1
            simp
        rw [same] at post
        cases rx
        obtain ⟨t, rfl⟩ := ry
        obtain ⟨its, r, ⟨⟨cls, dd, data, sl⟩, ho, hc, n, hd⟩, hs⟩ := I.tuple ha.sq
        simp only at hc hd
        subst hc hd
        have c0 : (decide (k < -(2 ^ 63)) || decide (k ≥ 2 ^ 63)) = false := by
          rw [decide_eq_false (by omega), decide_eq_false (by omega)] <;> rfl
        have c1 : (its.toArray.isEmpty || k == 1) = true := by
          rcases Classical.not_and_iff_not_or_not.mp hk with c | c
          · have e1 : k = 1 := by omega
            subst e1
            simp
          · have e1 : vs = [] := Classical.not_not.mp c
            subst e1
            have e2 := r.length
            have e3 : its = [] := List.eq_nil_of_length_eq_zero e2.symm
            subst e3
            rfl
        exact wpAny_binaryOp_repeat_ref (T := "tuple") (U := "int") (by decide) ⟨_, ho, rfl⟩ (fun s' => typeIs_int s' k t) noFill_tuple_mul PySem.F.fills_int_mul PySem.F.slot_int_rmul repeat_tuple PySem.F.slot_int_index.lookup
          (call_meets PySem.F.slot_int_rmul (typeIs_int s k t) PySem.F.entry_int_rmul (PySem.F.args_int_rmul_2 _ _) (int_rmul_tuple k t a its.toArray n dd sl)
            ⟨ho, rfl, ⟨_, ho, rfl⟩, call_meets PySem.F.slot_tuple_mul ⟨_, ho, rfl⟩ PySem.F.entry_tuple_mul (PySem.F.args_tuple_mul_2 _ _) (tuple_mul1 a its.toArray n dd sl k t c0 c1) ⟨ho, ⟨.ref a, H, I, rfl, post_id ft post (.tup ha h1)⟩⟩⟩)
    · cases e
  · cases e
theorem op_eqV2 (hu : X.A.units + 65 < cLine) : OpR X (compareOp .Eq) (rG X.prog X.w X.K eqV) := by
  intro pins s σ H vx vy v u Q I rx ry ⟨F, x, y, Lx, Ly, z, ft, hx, hy, e, post⟩
  unfold eqV at e
  split at e
  · rename_i i j
    cases e
    cases hx; cases hy
    refine op_eq pins s σ H _ _ v u Q I rx ry ⟨rfl, ?_⟩
    rw [dec_int]
    exact post_id ft post (.bl _)
  · rename_i i j
    cases e
    cases hx; cases hy
    refine op_eq pins s σ H _ _ v u Q I rx ry ⟨rfl, ?_⟩
    have e2 : decide (V.str i = V.str j) = (i == j) := by rw [Bool.eq_iff_iff]; simp
    rw [e2]
    exact post_id ft post (.bl _)
  · rename_i i j
    cases e
    cases hx; cases hy
    refine op_eq pins s σ H _ _ v u Q I rx ry ⟨rfl, ?_⟩
    rw [dec_bl]
    exact post_id ft post (.bl _)
  · split at e
    · rename_i h0
      rw [Bool.and_eq_true] at h0
      cases e
      exact op_eqD (by omega) pins s σ H _ _ v u Q I rx ry ⟨_, _, hx.dp (okD_lay h0.1), hy.dp (okD_lay h0.2), h0.1, h0.2, post_id ft post (.bl _)⟩
    · cases e
theorem op_neV2 (hu : X.A.units + 65 < cLine) : OpR X (compareOp .NotEq) (rG X.prog X.w X.K neV) := by
  intro pins s σ H vx vy v u Q I rx ry ⟨F, x, y, Lx, Ly, z, ft, hx, hy, e, post⟩
  unfold neV at e
  obtain ⟨z', e1, e⟩ := bind_eq e
  unfold eqV at e1
  split at e1
  · rename_i i j
    cases e1
    cases e
    cases hx; cases hy
    refine op_ne pins s σ H _ _ v u Q I rx ry ⟨rfl, ?_⟩
    rw [dec_int]
    exact post_id ft post (.bl _)
  · rename_i i j
    cases e1
    cases e
    cases hx; cases hy
    refine op_ne pins s σ H _ _ v u Q I rx ry ⟨rfl, ?_⟩
    have e2 : decide (V.str i = V.str j) = (i == j) := by rw [Bool.eq_iff_iff]; simp
    rw [e2]
    exact post_id ft post (.bl _)
  · rename_i i j
    cases e1
    cases e
    cases hx; cases hy
    refine op_ne pins s σ H _ _ v u Q I rx ry ⟨rfl, ?_⟩
    rw [dec_bl]
    exact post_id ft post (.bl _)
  · split at e1
    · rename_i h0
      rw [Bool.and_eq_true] at h0
      cases e1
      cases e
      exact op_neD (by omega) pins s σ H _ _ v u Q I rx ry ⟨_, _, hx.dp (okD_lay h0.1), hy.dp (okD_lay h0.2), h0.1, h0.2, post_id ft post (.bl _)⟩
    · cases e1
theorem op_ltV (hu : X.A.units + 65 < cLine) : OpR X (compareOp .Lt) (rG X.prog X.w X.K ltV) := by
  intro pins s σ H vx vy v u Q I rx ry ⟨F, x, y, Lx, Ly, z, ft, hx, hy, e, post⟩
  unfold ltV at e
  split at e
  · cases e
    cases hx; cases hy
    exact op_lt pins s σ H _ _ v u Q I rx ry ⟨_, _, rfl, rfl, post_id ft post (.bl _)⟩
  · split at e
    · rename_i h0
      rw [Bool.and_eq_true, Bool.and_eq_true] at h0
      cases e
      obtain ⟨as, r1⟩ := Dp.reads I _ _ _ (hx.dp (okD_lay h0.1.1)) rx
      obtain ⟨bs, r2⟩ := Dp.reads I _ _ _ (hy.dp (okD_lay h0.1.2)) ry
      exact PySem.W.rcLt_alike _ _ X.A s v u as bs r1 r2 h0.2 (fun z => by simp [Val.toD] at z) (SeqAt.room_of_shaped h0.1.1 (by omega)) X.prog X.w X.xe _ ⟨.bl _, H, I, rfl, post_id ft post (.bl _)⟩
    · cases e
  · cases e
theorem op_leV : OpR X (compareOp .LtE) (rG X.prog X.w X.K leV) := by
  intro pins s σ H vx vy v u Q I rx ry ⟨F, x, y, Lx, Ly, z, ft, hx, hy, e, post⟩
  unfold leV at e
  split at e
  · cases e
    cases hx; cases hy
    exact op_le pins s σ H _ _ v u Q I rx ry ⟨_, _, rfl, rfl, post_id ft post (.bl _)⟩
  · cases e
theorem op_gtV : OpR X (compareOp .Gt) (rG X.prog X.w X.K gtV) := by
  intro pins s σ H vx vy v u Q I rx ry ⟨F, x, y, Lx, Ly, z, ft, hx, hy, e, post⟩
  unfold gtV at e
  split at e
  · cases e
    cases hx; cases hy
    exact op_gt pins s σ H _ _ v u Q I rx ry ⟨_, _, rfl, rfl, post_id ft post (.bl _)⟩
  · cases e
theorem op_geV : OpR X (compareOp .GtE) (rG X.prog X.w X.K geV) := by
  intro pins s σ H vx vy v u Q I rx ry ⟨F, x, y, Lx, Ly, z, ft, hx, hy, e, post⟩
  unfold geV at e
  split at e
  · cases e
    cases hx; cases hy
    exact op_ge pins s σ H _ _ v u Q I rx ry ⟨_, _, rfl, rfl, post_id ft post (.bl _)⟩
  · cases e
theorem op_isV : OpR X (compareOp .Is) (rG X.prog X.w X.K isV) := by
  intro pins s σ H vx vy v u Q I rx ry ⟨F, x, y, Lx, Ly, z, ft, hx, hy, e, post⟩
  unfold isV at e
  split at e
  · cases e
    cases hx; cases hy
    refine op_isBl pins s σ H _ _ v u Q I rx ry ⟨_, _, rfl, rfl, ?_⟩
    rw [← Bool.beq_eq_decide_eq]
    exact post_id ft post (.bl _)
  · cases e
    cases hx; cases hy
    exact op_isN pins s σ H _ _ v u Q I rx ry ⟨rfl, post_id ft post (.bl _)⟩
  · rename_i hn
    cases e
    cases hy
    refine op_isN pins s σ H _ _ v u Q I rx ry ⟨rfl, ?_⟩
    rw [decide_eq_false (hx.not_non hn)]
    exact post_id ft post (.bl _)
  · cases e
theorem op_isntV : OpR X (compareOp .IsNot) (rG X.prog X.w X.K isntV) := by
  intro pins s σ H vx vy v u Q I rx ry ⟨F, x, y, Lx, Ly, z, ft, hx, hy, e, post⟩
  unfold isntV at e
  obtain ⟨z', e1, e⟩ := bind_eq e
  unfold isV at e1
  split at e1
  · cases e1
    cases e
    cases hx; cases hy
    refine op_notBl pins s σ H _ _ v u Q I rx ry ⟨_, _, rfl, rfl, ?_⟩
    rw [← Bool.beq_eq_decide_eq]
    exact post_id ft post (.bl _)
  · cases e1
    cases e
    cases hx; cases hy
    exact op_notN pins s σ H _ _ v u Q I rx ry ⟨rfl, post_id ft post (.bl _)⟩
  · rename_i hn
    cases e1
    cases e
    cases hy
    refine op_notN pins s σ H _ _ v u Q I rx ry ⟨rfl, ?_⟩
    rw [decide_eq_false (hx.not_non hn)]
    exact post_id ft post (.bl _)
  · cases e1
theorem any_toD (ys : List Val) (d : PyData) : ((toDL ys).any fun z => PyData.eqv z d) = ys.any fun y => PyData.eqv y.toD d := by
  rw [toDL_map, List.any_map]
  rfl
theorem op_inV2 (hu : X.A.units + 65 < cLine) : OpR X (compareOp .In) (rG X.prog X.w X.K inV2) := by
  intro pins s σ H vx vy v u Q I rx ry ⟨F, x, y, Lx, Ly, z, ft, hx, hy, e, post⟩
  unfold inV2 at e
  split at e
  · split at e
    · rename_i h0
      rw [Bool.and_eq_true] at h0
      cases e
      have dy := hy.dp (okD_lay h0.2)
      refine op_inD hu pins s σ H _ _ v u Q I rx ry ⟨_, _, hx.dp (okD_lay h0.1), dy, h0.1, h0.2, ?_⟩
      rw [any_toD]
      exact post_id ft post (.bl _)
    · cases e
  · split at e
    · rename_i h0
      rw [Bool.and_eq_true] at h0
      cases e
      obtain ⟨as, r1⟩ := Dp.reads I _ _ _ (hx.dp (okD_lay h0.1)) rx
      obtain ⟨bs, r2⟩ := Dp.reads I _ _ _ (hy.dp (okD_lay h0.2)) ry
      refine SeqAt.in_tuple_reads r2 r1 (SeqAt.canLay_of_shaped h0.2) (SeqAt.canLay_of_shaped h0.1) (room_in_shaped h0.1 hu) ⟨.bl _, H, I, rfl, ?_⟩
      rw [any_toD]
      exact post_id ft post (.bl _)
    · cases e
  · cases e
theorem op_notinV2 (hu : X.A.units + 65 < cLine) : OpR X (compareOp .NotIn) (rG X.prog X.w X.K notinV2) := by
  intro pins s σ H vx vy v u Q I rx ry ⟨F, x, y, Lx, Ly, z, ft, hx, hy, e, post⟩
  unfold notinV2 at e
  obtain ⟨z', e1, e⟩ := bind_eq e
  unfold inV2 at e1
  split at e1
  · split at e1
    · rename_i h0
      rw [Bool.and_eq_true] at h0
      cases e1
      cases e
      have dy := hy.dp (okD_lay h0.2)
      refine op_notInD hu pins s σ H _ _ v u Q I rx ry ⟨_, _, hx.dp (okD_lay h0.1), dy, h0.1, h0.2, ?_⟩
      rw [any_toD]
      exact post_id ft post (.bl _)
    · cases e1
  · split at e1
    · rename_i h0
      rw [Bool.and_eq_true] at h0
      cases e1
      cases e
      obtain ⟨as, r1⟩ := Dp.reads I _ _ _ (hx.dp (okD_lay h0.1)) rx
      obtain ⟨bs, r2⟩ := Dp.reads I _ _ _ (hy.dp (okD_lay h0.2)) ry
      refine SeqAt.notIn_tuple_reads r2 r1 (SeqAt.canLay_of_shaped h0.2) (SeqAt.canLay_of_shaped h0.1) (room_in_shaped h0.1 hu) ⟨.bl _, H, I, rfl, ?_⟩
      rw [any_toD]
      exact post_id ft post (.bl _)
    · cases e1
  · cases e1
theorem ix_idxV : IxR X (rG X.prog X.w X.K idxV) := by
  intro value slice pins s σ H vx vy v u Q I rx ry ⟨F, x, y, Lx, Ly, z, ft, hx, hy, e, post⟩ hs
  unfold idxV at e
  split at e
  · obtain ⟨e1, p⟩ := pureO_some e
    obtain ⟨a, vs, L0, rfl, ha, hvs⟩ := hx.lst_inv
    cases hy
    obtain ⟨vi, h1, h2⟩ := hvs.atI e1 p
    exact ix_list value slice pins s σ H _ _ v u Q I rx ry ⟨a, vs, _, vi, rfl, rfl, SqL.of ha, h1, post_id ft post h2⟩ hs
  · obtain ⟨e1, p⟩ := pureO_some e
    obtain ⟨a, vs, rfl, ha, hvs⟩ := hx.tup_inv
    cases hy
    obtain ⟨vi, h1, h2⟩ := hvs.atI e1 p
    exact ix_tup value slice pins s σ H _ _ v u Q I rx ry ⟨a, vs, _, vi, rfl, rfl, ha.sq, h1, post_id ft post h2⟩ hs
  · rename_i ns i
    cases e1 : atI ns i with
    | none => rw [e1] at e; cases e
    | some n =>
      rw [e1] at e
      cases e
      cases hx with
      | scr ha =>
        cases hy
        exact ix_list value slice pins s σ H _ _ v u Q I rx ry ⟨_, _, _, .int n, rfl, rfl, ha.sq, by rw [atI_map, e1]; rfl, post_id ft post (.int _)⟩ hs
  · cases e
end

/-! what is built in -/
def lenV : List Val → Option Val
  | [.lst _ xs] => some (.int xs.length)
  | [.tup xs] => some (.int xs.length)
  | [.scr ns] => some (.int ns.length)
  | [.str z] => if z.length ≤ sizeLine then some (.int z.length) else none
  | _ => none
def intV : List Val → Option Val
  | [.int i] => some (.int i)
  | [.bl b] => some (.int (if b then 1 else 0))
  | _ => none
def absV2 : List Val → Option Val
  | [.int i] => some (.int (if i < 0 then -i else i))
  | _ => none
def max2V : List Val → Option Val
  | [.int i, .int j] => some (.int (if j > i then j else i))
  | _ => none
def min2V : List Val → Option Val
  | [.int i, .int j] => some (.int (if j < i then j else i))
  | _ => none
def blsOf : List Val → Option (List Bool)
  | [] => some []
  | .bl b :: r => (blsOf r).map (b :: ·)
  | _ => none
def allV : List Val → Option Val
  | [.lst _ xs] => (blsOf xs).map fun bs => .bl (bs.all id)
  | _ => none
def anyV : List Val → Option Val
  | [.lst _ xs] => (blsOf xs).map fun bs => .bl (bs.any id)
  | _ => none
def listV : List Val → Option Val
  | [.lst _ xs] => if pureL xs = true then some (.lst true xs) else none
  | [.tup xs] => if pureL xs = true then some (.lst true xs) else none
  | _ => none
def tupleV : List Val → Option Val
  | [.lst _ xs] => if pureL xs = true then some (.tup xs) else none
  | [.tup xs] => if pureL xs = true then some (.tup xs) else none
  | _ => none
section
variable {P : Program} {w : World} {K : PySem.W.Frag} {F : Addr → Prop} {H : Hp}
theorem VRs.inv1 {vs : List V} {x : Val} {L : List Addr} (h : VRs P w K F H vs [x] L) : ∃ v, vs = [v] ∧ VR P w K F H v x L := by
  cases h with
  | cons h t =>
    cases t
    exact ⟨_, rfl, by rw [List.append_nil]; exact h⟩
theorem VRs.inv2 {vs : List V} {x y : Val} {L : List Addr} (h : VRs P w K F H vs [x, y] L) : ∃ v u L1 L2, vs = [v, u] ∧ VR P w K F H v x L1 ∧ VR P w K F H u y L2 := by
  cases h with
  | cons h t =>
    cases t with
    | cons h2 t =>
      cases t
      exact ⟨_, _, _, _, rfl, h, h2⟩
theorem bls_rel : ∀ {vs : List V} {xs : List Val} {L : List Addr} {bs : List Bool}, VRs P w K F H vs xs L → blsOf xs = some bs → vs = bs.map V.bl
  | _, _, _, _, .nil, e => by cases e; rfl
  | _, _, _, bs, .cons (x := x) (xs := xs) h t, e => by
    cases x with
    | bl b =>
      cases h
      have e' : (blsOf xs).map (b :: ·) = some bs := e
      cases e2 : blsOf xs with
      | none => rw [e2] at e'; cases e'
      | some cs =>
        rw [e2] at e'
        cases e'
        rw [bls_rel t e2]
        rfl
    | _ => exact absurd e (by simp [blsOf])
end
section
variable {X : Cx}
theorem call_lenV : CallR X (.builtin "len") (rGN X.prog X.w X.K lenV) := by
  intro pins s σ H vs us Q I r ⟨F, xs, Lx, z, ft, hx, e, post⟩
  unfold lenV at e
  split at e
  · cases e
    obtain ⟨v, rfl, h⟩ := hx.inv1
    obtain ⟨a, ws, L0, rfl, ha, hws⟩ := h.lst_inv
    refine call_len_seq pins s σ H _ us Q I r ⟨a, ws, rfl, .inl (SqL.of ha), ?_⟩
    rw [hws.length]
    exact post_id ft post (.int _)
  · cases e
    obtain ⟨v, rfl, h⟩ := hx.inv1
    obtain ⟨a, ws, rfl, ha, hws⟩ := h.tup_inv
    refine call_len_seq pins s σ H _ us Q I r ⟨a, ws, rfl, .inr ha.sq, ?_⟩
    rw [hws.length]
    exact post_id ft post (.int _)
  · rename_i ns
    cases e
    obtain ⟨v, rfl, h⟩ := hx.inv1
    cases h with
    | scr ha =>
      refine call_len_seq pins s σ H _ us Q I r ⟨_, _, rfl, .inl ha.sq, ?_⟩
      rw [List.length_map]
      exact post_id ft post (.int _)
  · split at e
    · rename_i h0
      cases e
      obtain ⟨v, rfl, h⟩ := hx.inv1
      cases h
      exact call_len_str pins s σ H _ us Q I r ⟨_, rfl, h0, post_id ft post (.int _)⟩
    · cases e
  · cases e
theorem call_intV : CallR X (.type "int") (rGN X.prog X.w X.K intV) := by
  intro pins s σ H vs us Q I r ⟨F, xs, Lx, z, ft, hx, e, post⟩
  unfold intV at e
  split at e
  · cases e
    obtain ⟨v, rfl, h⟩ := hx.inv1
    cases h
    exact call_int1 pins s σ H _ us Q I r (.inl ⟨_, rfl, post_id ft post (.int _)⟩)
  · cases e
    obtain ⟨v, rfl, h⟩ := hx.inv1
    cases h
    exact call_int1 pins s σ H _ us Q I r (.inr ⟨_, rfl, post_id ft post (.int _)⟩)
  · cases e
theorem call_absV : CallR X (.builtin "abs") (rGN X.prog X.w X.K absV2) := by
  intro pins s σ H vs us Q I r ⟨F, xs, Lx, z, ft, hx, e, post⟩
  unfold absV2 at e
  split at e
  · cases e
    obtain ⟨v, rfl, h⟩ := hx.inv1
    cases h
    exact call_abs pins s σ H _ us Q I r ⟨_, rfl, post_id ft post (.int _)⟩
  · cases e
theorem call_max2V (hc : X.calm = true) : CallR X (.builtin "max") (rGN X.prog X.w X.K max2V) := by
  intro pins s σ H vs us Q I r ⟨F, xs, Lx, z, ft, hx, e, post⟩
  unfold max2V at e
  split at e
  · cases e
    obtain ⟨v, u, _, _, rfl, h, h2⟩ := hx.inv2
    cases h; cases h2
    exact call_max2 hc pins s σ H _ us Q I r ⟨_, _, rfl, post_id ft post (.int _)⟩
  · cases e
theorem call_min2V (hc : X.calm = true) : CallR X (.builtin "min") (rGN X.prog X.w X.K min2V) := by
  intro pins s σ H vs us Q I r ⟨F, xs, Lx, z, ft, hx, e, post⟩
  unfold min2V at e
  split at e
  · cases e
    obtain ⟨v, u, _, _, rfl, h, h2⟩ := hx.inv2
    cases h; cases h2
    exact call_min2 hc pins s σ H _ us Q I r ⟨_, _, rfl, post_id ft post (.int _)⟩
  · cases e
theorem call_allV (hc : X.calm = true) : CallR X (.builtin "all") (rGN X.prog X.w X.K allV) := by
  intro pins s σ H vs us Q I r ⟨F, xs, Lx, z, ft, hx, e, post⟩
  unfold allV at e
  split at e
  · rename_i m ys
    cases e2 : blsOf ys with
    | none => rw [e2] at e; cases e
    | some bs =>
      rw [e2] at e
      cases e
      obtain ⟨v, rfl, h⟩ := hx.inv1
      obtain ⟨a, ws, L0, rfl, ha, hws⟩ := h.lst_inv
      refine cr_all hc pins s σ H _ us Q I r ⟨a, bs, rfl, ?_, post_id ft post (.bl _)⟩
      rw [← bls_rel hws e2]
      exact SqL.of ha
  · cases e
theorem call_anyV (hc : X.calm = true) : CallR X (.builtin "any") (rGN X.prog X.w X.K anyV) := by
  intro pins s σ H vs us Q I r ⟨F, xs, Lx, z, ft, hx, e, post⟩
  unfold anyV at e
  split at e
  · rename_i m ys
    cases e2 : blsOf ys with
    | none => rw [e2] at e; cases e
    | some bs =>
      rw [e2] at e
      cases e
      obtain ⟨v, rfl, h⟩ := hx.inv1
      obtain ⟨a, ws, L0, rfl, ha, hws⟩ := h.lst_inv
      refine cr_any hc pins s σ H _ us Q I r ⟨a, bs, rfl, ?_, post_id ft post (.bl _)⟩
      rw [← bls_rel hws e2]
      exact SqL.of ha
  · cases e
theorem call_listV : CallR X (.type "list") (rGN X.prog X.w X.K listV) := by
  intro pins s σ H vs us Q I r ⟨F, xs, Lx, z, ft, hx, e, post⟩
  unfold listV at e
  split at e
  · split at e
    · rename_i h0
      cases e
      obtain ⟨v, rfl, h⟩ := hx.inv1
      obtain ⟨a, ws, L0, rfl, ha, hws⟩ := h.lst_inv
      exact call_list_of pins s σ H _ us Q I r ⟨a, ws, rfl, .inl (SqL.of ha), fun p np => post_lst ft post (hws.pureL h0) np⟩
    · cases e
  · split at e
    · rename_i h0
      cases e
      obtain ⟨v, rfl, h⟩ := hx.inv1
      obtain ⟨a, ws, rfl, ha, hws⟩ := h.tup_inv
      exact call_list_of pins s σ H _ us Q I r ⟨a, ws, rfl, .inr ha.sq, fun p np => post_lst ft post (hws.pureL h0) np⟩
    · cases e
  · cases e
theorem call_tupleV : CallR X (.type "tuple") (rGN X.prog X.w X.K tupleV) := by
  intro pins s σ H vs us Q I r ⟨F, xs, Lx, z, ft, hx, e, post⟩
  unfold tupleV at e
  split at e
  · split at e
    · rename_i h0
      cases e
      obtain ⟨v, rfl, h⟩ := hx.inv1
      obtain ⟨a, ws, L0, rfl, ha, hws⟩ := h.lst_inv
      exact call_tuple_of pins s σ H _ us Q I r ⟨a, ws, rfl, .inl ⟨SqL.of ha, fun p np => post_tup ft post (hws.pureL h0) np⟩⟩
    · cases e
  · split at e
    · rename_i h0
      cases e
      obtain ⟨v, rfl, h⟩ := hx.inv1
      obtain ⟨a, ws, rfl, ha, hws⟩ := h.tup_inv
      exact call_tuple_of pins s σ H _ us Q I r ⟨a, ws, rfl, .inr ⟨ha.sq, post_id ft post (.tup ha (hws.pureL h0))⟩⟩
    · cases e
  · cases e
end

/-! isinstance -/
inductive Ty where
  | tInt | tBool | tStr | tTuple | tList
def Ty.name : Ty → String
  | .tInt => "int"
  | .tBool => "bool"
  | .tStr => "str"
  | .tTuple => "tuple"
  | .tList => "list"
def Val.isT : Val → Ty → Option Bool
  | .dct _ _ _ _, _ => none
  | .scr _, _ => none
  | .int _, .tInt => some true
  | .bl _, .tInt => some true
  | .bl _, .tBool => some true
  | .str _, .tStr => some true
  | .tup _, .tTuple => some true
  | .lst _ _, .tList => some true
  | _, _ => some false
def isiV (T : Ty) (x : Val) : Option Val := (x.isT T).map .bl
def anyTy : List Ty → Val → Option Bool
  | [], _ => some false
  | T :: r, x => match x.isT T with
    | some true => some true
    | some false => anyTy r x
    | none => none
def isiVs (Ts : List Ty) (x : Val) : Option Val := (anyTy Ts x).map .bl
theorem kitT {K : PySem.W.Frag} {P : Program} {w : World} {F : Addr → Prop} {H : Hp} {v : V} {x : Val} {L : List Addr} {T : Ty} {b : Bool} (h : VR P w K F H v x L) (e : x.isT T = some b) : ∃ t, TyX K H v (.type t) ∧ PySem.W.kitOne K (.type t) (.type T.name) = some b := by
  cases h with
  | non => exact ⟨_, .base .non, by cases T <;> cases e <;> exact kit_ty (by decide +kernel)⟩
  | bl c => exact ⟨_, .base (.bl c), by cases T <;> cases e <;> exact kit_ty (by decide +kernel)⟩
  | int i => exact ⟨_, .base (.int i), by cases T <;> cases e <;> exact kit_ty (by decide +kernel)⟩
  | str z => exact ⟨_, .base (.str z), by cases T <;> cases e <;> exact kit_ty (by decide +kernel)⟩
  | tup ha hvs =>
    refine ⟨"tuple", ?_, by cases T <;> cases e <;> exact kit_ty (by decide +kernel)⟩
    rcases ha with ⟨_, ha⟩ | ⟨o, its, n, ha, hc, _⟩
    · exact .base (.tup ha)
    · exact .kTuple ha hc
  | lst ha hvs =>
    refine ⟨"list", ?_, by cases T <;> cases e <;> exact kit_ty (by decide +kernel)⟩
    have hh := VR.lst_inv (VR.lst ha hvs : VR P w K F H _ _ _)
    obtain ⟨a, vs, L0, ea, h1, _⟩ := hh
    cases ea
    exact .base (.lst h1)
  | dK _ _ _ => exact absurd e (by simp [Val.isT])
  | dT _ _ _ _ _ => exact absurd e (by simp [Val.isT])
  | scr _ => exact absurd e (by simp [Val.isT])
theorem VR.tyX {K : PySem.W.Frag} {P : Program} {w : World} {F : Addr → Prop} {H : Hp} {v : V} {x : Val} {L : List Addr} (h : VR P w K F H v x L) (e : (x.isT .tInt).isSome = true) : ∃ t, TyX K H v (.type t) ∧ ∀ T b, x.isT T = some b → PySem.W.kitOne K (.type t) (.type T.name) = some b := by
  cases h with
  | non => exact ⟨_, .base .non, fun T b e => by cases T <;> cases e <;> exact kit_ty (by decide +kernel)⟩
  | bl c => exact ⟨_, .base (.bl c), fun T b e => by cases T <;> cases e <;> exact kit_ty (by decide +kernel)⟩
  | int i => exact ⟨_, .base (.int i), fun T b e => by cases T <;> cases e <;> exact kit_ty (by decide +kernel)⟩
  | str z => exact ⟨_, .base (.str z), fun T b e => by cases T <;> cases e <;> exact kit_ty (by decide +kernel)⟩
  | tup ha hvs =>
    refine ⟨"tuple", ?_, fun T b e => by cases T <;> cases e <;> exact kit_ty (by decide +kernel)⟩
    rcases ha with ⟨_, ha⟩ | ⟨o, its, n, ha, hc, _⟩
    · exact .base (.tup ha)
    · exact .kTuple ha hc
  | lst ha hvs =>
    refine ⟨"list", ?_, fun T b e => by cases T <;> cases e <;> exact kit_ty (by decide +kernel)⟩
    have hh := VR.lst_inv (VR.lst ha hvs : VR P w K F H _ _ _)
    obtain ⟨a, vs, L0, ea, h1, _⟩ := hh
    cases ea
    exact .base (.lst h1)
  | dK _ _ _ => exact absurd e (by simp [Val.isT])
  | dT _ _ _ _ _ => exact absurd e (by simp [Val.isT])
  | scr _ => exact absurd e (by simp [Val.isT])
section
variable {X : Cx} {q : Bool} {e : Expr} {D : Ev} {p p2 pos : Pos}
theorem se_isi {T : Ty} {tn : Str} (hm : X.mg "isinstance" = none) (hmt : X.mg tn = none) (hv : bootBuiltins tn = some (.type T.name)) (he : SO q X e D) (hg : Gl X "isinstance" := by rfl) (hgt : Gl X tn := by rfl) (hnt : tn ≠ "__name__" := by decide) (hdt : (tn == ("__debug__" : Str)) = false := by decide)
    (h1 : starEach (e :: [.Name tn p2]) X.env = (false, eval e X.env) :: starEach [.Name tn p2] X.env := by rfl) (h2 : starEach (.Name tn p2 :: []) X.env = (false, eval (.Name tn p2) X.env) :: starEach [] X.env := by rfl) (hpl : (backTo pos (starEach [.Name tn p2] X.env)).any (·.1) = false := by rfl) :
    SE q X (.Call (.Name "isinstance" p) [e, .Name tn p2] [] pos) (c1 (isiV T) D) :=
  peI (pe_callB call_isi hg hm (by decide +kernel) (pa_cons he (pa_cons (pe_bltn (v := .ty T.name) hgt hmt hv rfl hnt hdt) pa_nil h2) h1) (by decide) (by decide) h1 hpl) fun σ H Q ⟨F, τ, L, z, τ', s, gd, ev, post⟩ => by
    obtain ⟨⟨x, τ1⟩, e1, ev⟩ := bind_eq ev
    obtain ⟨z', e2, ev⟩ := bind_eq ev
    cases ev
    refine ⟨F, τ, L, x, _, s, gd, e1, fun v F1 H1 L1 Lr h1 s1 st1 => ?_⟩
    cases e3 : x.isT T with
    | none => exact absurd e2 (by simp [isiV, e3])
    | some b =>
      have e4 : z = .bl b := by
        have : (some b).map Val.bl = some z := by rw [← e3]; exact e2
        exact (Option.some.inj this).symm
      subst e4
      obtain ⟨t, ty, k⟩ := kitT h1 e3
      exact ⟨v, .ty T.name, .type t, .type T.name, b, rfl, .ty _, ty, k, post _ F1 H1 L1 [] (.bl b) s1 (by rw [List.append_nil]; exact st1)⟩
theorem anyTy_kit {K : PySem.W.Frag} {t : String} {x : Val} (h : ∀ T b, x.isT T = some b → PySem.W.kitOne K (.type t) (.type T.name) = some b) : ∀ {Ts : List Ty} {b : Bool}, anyTy Ts x = some b → PySem.W.kitAny K (.type t) (Ts.map fun T => .type T.name) = some b
  | [], b, e => by cases e; rfl
  | T :: r, b, e => by
    unfold anyTy at e
    show (match PySem.W.kitOne K (.type t) (.type T.name) with
      | some true => some true
      | some false => PySem.W.kitAny K (.type t) (r.map fun T => .type T.name)
      | none => none) = some b
    cases e1 : x.isT T with
    | none => rw [e1] at e; cases e
    | some c =>
      rw [e1] at e
      rw [h T c e1]
      cases c with
      | true => exact e
      | false => exact anyTy_kit h e
/-- isinstance(e, (T1, T2)) -/
theorem se_isi2 {T1 T2 : Ty} {t1 t2 : Str} {q1 q2 q3 : Pos} {k : Nat} (hm : X.mg "isinstance" = none) (hmt : X.mg t1 = none) (hmt2 : X.mg t2 = none) (hv : bootBuiltins t1 = some (.type T1.name)) (hv2 : bootBuiltins t2 = some (.type T2.name)) (he : SO q X e D) (hg : Gl X "isinstance" := by rfl) (hgt : Gl X t1 := by rfl) (hgt2 : Gl X t2 := by rfl)
    (hnt : t1 ≠ "__name__" := by decide) (hdt : (t1 == ("__debug__" : Str)) = false := by decide) (hnt2 : t2 ≠ "__name__" := by decide) (hdt2 : (t2 == ("__debug__" : Str)) = false := by decide)
    (h0 : starEach (.Name t1 q1 :: [.Name t2 q2]) X.env = (false, eval (.Name t1 q1) X.env) :: starEach [.Name t2 q2] X.env := by rfl) (h00 : starEach (.Name t2 q2 :: []) X.env = (false, eval (.Name t2 q2) X.env) :: starEach [] X.env := by rfl)
    (h1 : starEach (e :: [.Tuple [.Name t1 q1, .Name t2 q2] k q3]) X.env = (false, eval e X.env) :: starEach [.Tuple [.Name t1 q1, .Name t2 q2] k q3] X.env := by rfl)
    (h2 : starEach (.Tuple [.Name t1 q1, .Name t2 q2] k q3 :: []) X.env = (false, eval (.Tuple [.Name t1 q1, .Name t2 q2] k q3) X.env) :: starEach [] X.env := by rfl) (hpl : (backTo pos (starEach [.Tuple [.Name t1 q1, .Name t2 q2] k q3] X.env)).any (·.1) = false := by rfl) :
    SE q X (.Call (.Name "isinstance" p) [e, .Tuple [.Name t1 q1, .Name t2 q2] k q3] [] pos) (c1 (isiVs [T1, T2]) D) :=
  peI (pe_callB call_isiT hg hm (by decide +kernel) (pa_cons he (pa_cons (pe_tup (pa_cons (pe_bltn (v := .ty T1.name) hgt hmt hv rfl hnt hdt) (pa_cons (pe_bltn (v := .ty T2.name) hgt2 hmt2 hv2 rfl hnt2 hdt2) pa_nil h00) h0)) pa_nil h2) h1) (by decide) (by decide) h1 hpl) fun σ H Q ⟨F, τ, L, z, τ', s, gd, ev, post⟩ => by
    obtain ⟨⟨x, τ1⟩, e1, ev⟩ := bind_eq ev
    obtain ⟨z', e2, ev⟩ := bind_eq ev
    cases ev
    refine ⟨F, τ, L, x, _, s, gd, e1, fun v F1 H1 L1 Lr h1 s1 st1 => ⟨by show 2 ≤ sizeLine; decide, fun tp np => ?_⟩⟩
    cases e3 : anyTy [T1, T2] x with
    | none => exact absurd e2 (by simp [isiVs, e3])
    | some b =>
      have e4 : z = .bl b := by
        have : (some b).map Val.bl = some z := by rw [← e3]; exact e2
        exact (Option.some.inj this).symm
      subst e4
      have hs : (x.isT .tInt).isSome = true := by
        cases x <;> first | rfl | (exact absurd e3 (by simp [anyTy, Val.isT]))
      have st2 := Step.newF (o := .tup [V.ty T1.name, V.ty T2.name]) st1.good np
      have h2 := h1.stepQ st2 st1.good.ft
      obtain ⟨t, ty, kk⟩ := h2.tyX hs
      exact ⟨v, tp, [.ty T1.name, .ty T2.name], .type t, [.type T1.name, .type T2.name], b, rfl, upd_same, .cons (.ty _) (.cons (.ty _) .nil), ty, anyTy_kit kk e3, post _ _ _ L1 [] (.bl b) (s1.stepQ st2 st1.good.ft) (by rw [List.append_nil]; exact (st1.trans st2).andT)⟩
end
end MV
end

section
set_option maxHeartbeats 4000000
/-! slices; enumerate and zip walked; items stored -/
namespace MV
open PySem PySem.Spec PyProof.Rows L2

/-! slices -/
def cutL (xs : List Val) (lo hi : Option Int) : List Val := (xs.drop (HT.sIx xs.length 0 lo)).take (HT.sIx xs.length xs.length hi - HT.sIx xs.length 0 lo)
def sliceV (x : Val) (lo hi : Option Int) : Option Val := match x with
  | .lst _ xs => if pureL xs = true then some (.lst true (cutL xs lo hi)) else none
  | .tup xs => if pureL xs = true then some (.tup (cutL xs lo hi)) else none
  | _ => none
abbrev Pv := Sl → Option (Option Int × Sl)
def partN : Pv := fun τ => some (none, τ)
def Val.int? : Val → Option Int
  | .int i => some i
  | _ => none
theorem int?_some {x : Val} {i : Int} (h : x.int? = some i) : x = .int i := by
  cases x <;> first | (cases h; rfl) | exact nomatch h
def partS (D : Ev) : Pv := fun τ => (D τ).bind fun p => (p.1.int?).bind fun i => some (some i, p.2)
def cSl (D : Ev) (A B : Pv) : Ev := fun τ => (D τ).bind fun p => (A p.2).bind fun a => (B a.2).bind fun b => (sliceV p.1 a.1 b.1).bind fun z => some (z, b.2)
def revV : Val → Option Val
  | .lst _ xs => if pureL xs = true then some (.lst true xs.reverse) else none
  | .tup xs => if pureL xs = true then some (.tup xs.reverse) else none
  | _ => none
section
variable (P : Program) (w : World) (K : PySem.W.Frag) (q : Bool)
def tP (D : Pv) : L2.TO := fun σ H Q => ∃ F τ L o τ', SR P w K F H σ τ L ∧ Good F H L ∧ D τ = some (o, τ') ∧
  ∀ F' H' L', SR P w K F' H' σ τ' L' → Step q F H L F' H' L' → Q o H'
end
abbrev SP (q : Bool) (X : Cx) (e : Option Expr) (D : Pv) : Prop := PO X e (tP X.prog X.w X.K q D)
theorem poI {X : Cx} {e : Option Expr} {t t' : L2.TO} (h : PO X e t) (i : ∀ σ H Q, t' σ H Q → t σ H Q) : PO X e t' := ⟨fun pins s σ H Q I hw => h.run pins s σ H Q I (i σ H Q hw)⟩
section
variable {X : Cx} {q : Bool} {e : Expr} {D : Ev} {A B : Pv} {lo hi : Option Expr} {p2 pos : Pos}
theorem sp_none : SP true X none partN := poI po_none fun σ H Q ⟨F, τ, L, o, τ', s, g, ev, post⟩ => by
  cases ev
  exact post F H L s (Step.refl g)
theorem sp_some (h : SO q X e D) : SP q X (some e) (partS D) := poI (po_some h) fun σ H Q ⟨F, τ, L, o, τ', s, g, ev, post⟩ => by
  obtain ⟨⟨x, τ1⟩, e1, ev⟩ := bind_eq ev
  obtain ⟨i, e2, ev⟩ := bind_eq ev
  obtain rfl := int?_some e2
  cases ev
  exact ⟨F, τ, L, _, _, s, g, e1, fun v F1 H1 L1 Lr h1 s1 st1 => ⟨i, by cases h1; rfl, post F1 H1 L1 s1 st1⟩⟩
theorem sl_sliceV : SlR X (fun vx lo hi H Q => ∃ F x Lx z, (∀ a, F a → H a ≠ none) ∧ VR X.prog X.w X.K F H vx x Lx ∧ sliceV x lo hi = some z ∧ ∀ v F' H' Lr, VR X.prog X.w X.K F' H' v z Lr → Step true F H [] F' H' Lr → Q v H') := by
  intro pins s σ H vx v vl vu lo hi sl Q I rx hs pl pu ⟨F, x, Lx, z, ft, hx, e, post⟩
  unfold sliceV at e
  split at e
  · split at e
    · rename_i hp
      cases e
      obtain ⟨a, vs, L0, rfl, ha, hvs⟩ := hx.lst_inv
      have h1 := hvs.pureL hp
      refine sl_list pins s σ H _ v vl vu lo hi sl Q I rx hs pl pu ⟨a, vs, rfl, SqL.of ha, fun p np => ?_⟩
      have h2 := (h1.drop (HT.sIx vs.length 0 lo)).take (HT.sIx vs.length vs.length hi - HT.sIx vs.length 0 lo)
      rw [h1.length] at h2
      unfold cutL at post
      unfold cutV
      rw [h1.length]
      exact post_lst ft post h2 np
    · cases e
  · split at e
    · rename_i hp
      cases e
      obtain ⟨a, vs, rfl, ha, hvs⟩ := hx.tup_inv
      have h1 := hvs.pureL hp
      have h2 := (h1.drop (HT.sIx vs.length 0 lo)).take (HT.sIx vs.length vs.length hi - HT.sIx vs.length 0 lo)
      rw [h1.length] at h2
      refine sl_tupA pins s σ H _ v vl vu lo hi sl Q I rx hs pl pu ⟨a, vs, rfl, ha.sq, fun hw => ?_, fun _ p np => ?_⟩
      · rw [h1.length] at hw
        unfold cutL at post
        rw [hw.1, hw.2] at post
        rw [List.drop_zero, Nat.sub_zero, List.take_length] at post
        exact post_id ft post (.tup ha h1)
      · unfold cutL at post
        unfold cutV
        rw [h1.length]
        exact post_tup ft post h2 np
    · cases e
  · cases e
theorem se_slice (he : SO q X e D) (hl : SP true X lo A) (hu : SP true X hi B) : SE q X (.Subscript e (.Slice lo hi none p2) pos) (cSl D A B) :=
  peI (pe_slice sl_sliceV he hl hu) fun σ H Q ⟨F, τ, L, z, τ', s, g, ev, post⟩ => by
    obtain ⟨⟨x, τ1⟩, e1, ev⟩ := bind_eq ev
    obtain ⟨⟨oa, τ2⟩, e2, ev⟩ := bind_eq ev
    obtain ⟨⟨ob, τ3⟩, e3, ev⟩ := bind_eq ev
    obtain ⟨z', e4, ev⟩ := bind_eq ev
    cases ev
    refine ⟨F, τ, L, x, τ1, s, g, e1, fun v F1 H1 L1 Lr h1 s1 st1 => ?_⟩
    refine ⟨F1, τ1, L1, oa, τ2, s1, st1.good, e2, fun F2 H2 L2 s2 st2 => ?_⟩
    refine ⟨F2, τ2, L2, ob, _, s2, st2.good, e3, fun F3 H3 L3 s3 st3 => ?_⟩
    refine ⟨F3, x, Lr, z, st3.good.ft, (h1.stepQ st2 st1.good.ft).stepQ st3 st2.good.ft, e4, fun u F4 H4 M h4 st4 => ?_⟩
    exact post u F4 H4 L3 M h4 (s3.stepQ st4 st3.good.ft) (((st1.trans st2).andT.trans st3).andT.op st4)
/-- a text or a tuple read from the end -/
theorem getItem_tuple_back {P : Program} {w : World} {A : Around} {E : Value → Shared → Prop} {s : Shared} {t sl : Addr} {items : Array Value} {tk : Tok} {Q : Value → Shared → Prop} (ht : IsTup s.heap t items) (hs : s.heap.IsSliceOf sl .none .none (.int (-1) tk))
    (h : Q (.ref s.heap.objs.size) { s with heap := s.heap.push { cls := .type "tuple", data := .seq items.toList.reverse.toArray } }) (hz : items.size ≤ sizeLine) : wpAny (model P w) A (getItem (.ref t) (.ref sl)) Q E s := by
  obtain ⟨os, hos, hcs, hds⟩ := id hs
  have hT : s.TypeIs (.ref sl) "slice" := ⟨os, hos, hcs⟩
  have back : ((List.range items.size).filterMap fun (k : Nat) => items[(((items.size : Nat) : Int) - 1 + (k : Int) * (-1)).toNat]?).toArray = items.toList.reverse.toArray := by
    have e1 : (fun (k : Nat) => items[(((items.size : Nat) : Int) - 1 + (k : Int) * (-1)).toNat]?) = (fun j => items[j]?) ∘ fun (k : Nat) => (((items.size : Nat) : Int) - 1 + (k : Int) * (-1)).toNat := rfl
    rw [e1, ← List.filterMap_map]
    have e2 : (List.range items.size).map (fun (k : Nat) => (((items.size : Nat) : Int) - 1 + (k : Int) * (-1)).toNat) = (List.range items.size).reverse := by
      rw [← PySem.W.krv_range]
      refine List.map_congr_left fun k hk => ?_
      have := List.mem_range.mp hk
      omega
    rw [e2, List.filterMap_reverse, PySem.W.krv_all]
  have hzz : sizeOk (.seq items.toList.reverse.toArray) := by
    show items.toList.reverse.toArray.size ≤ sizeLine
    rw [List.size_toArray, List.length_reverse, Array.length_toList]
    exact hz
  have places : Builtin.Slice.slicePlaces (((items.size : Nat) : Int) - 1) (-1) (-1) = items.size := by
    unfold Builtin.Slice.slicePlaces
    rw [if_neg (by decide)]
    by_cases h0 : (((items.size : Nat) : Int) - 1 > -1)
    · rw [if_pos h0]
      have e3 : (((items.size : Nat) : Int) - 1 - -1 - 1) / -(-1) + 1 = ((items.size : Nat) : Int) := by
        rw [show (-(-1) : Int) = 1 from rfl, Int.ediv_one]
        omega
      rw [e3]
      rfl
    · rw [if_neg h0]
      have : items.size = 0 := by omega
      rw [this]
      rfl
  unfold getItem
  try with_reducible refine wpAny_holding ?_
  first | refine wpAny_bind (wpAny_pure ?_) | skip
  refine wpAny_bind (wpAny_sequenceKey ht.typeIs (by decide) ?_)
  refine wpAny_bind (wpAny_callSpecial?_slot (name := Str.ofString "__getitem__") ht.typeIs PyProof.Rows.slot_tuple_getitem
    (wpAny_call_entry PyProof.Rows.slot_tuple_getitem ht.typeIs entry_tuple_getitem ?_ (args_tuple_getitem _ _)))
  show wpAny _ _ (Builtin.Tuple.tupleItemsOf (.ref t) >>= _) _ _ s
  refine wpAny_bind (tupleItemsOf_ ht ?_)
  refine wpAny_bind (wpAny_typeOf hT ?_)
  rw [if_pos (by decide)]
  have applied : ∀ {Q' : Int × Int × Nat → Shared → Prop}, Q' (((items.size : Nat) : Int) - 1, -1, items.size) s → wpAny (model P w) A.in1 (Builtin.Slice.sliceApplied (.ref sl) (Pure.pure ((items.size : Nat) : Int))) Q' (fun e s' => E e s') s := by
    intro Q' hq
    unfold Builtin.Slice.sliceApplied Builtin.Slice.sliceFields
    refine wpAny_bind (wpAny_bind (wpAny_field hos hds (x := .none) rfl (wpAny_bind (wpAny_field hos hds (x := .none) rfl (wpAny_bind (wpAny_field hos hds (x := .int (-1) tk) rfl (wpAny_pure ?_)))))))
    refine wpAny_bind (slicePart_int ?_)
    show wpAny _ _ (if ((-1 : Int) == 0) = true then _ else _) _ _ s
    rw [if_neg (by decide)]
    refine wpAny_bind (slicePart_none (wpAny_bind (slicePart_none (wpAny_bind (wpAny_pure ?_)))))
    show wpAny _ _ (Pure.pure (((items.size : Nat) : Int) - 1, (-1 : Int), Builtin.Slice.slicePlaces (((items.size : Nat) : Int) - 1) (-1) (-1))) _ _ s
    rw [places]
    exact wpAny_pure hq
  refine wpAny_bind (applied ?_)
  have hno : ¬ ((((items.size : Nat) : Int) - 1 == 0 && (-1 : Int) == 1 && items.size == items.size) = true) := by
    rw [show ((-1 : Int) == 1) = false from rfl, Bool.and_false, Bool.false_and]
    exact Bool.false_ne_true
  show wpAny _ _ (if ((((items.size : Nat) : Int) - 1 == 0 && (-1 : Int) == 1 && items.size == items.size) = true) then _ else _) _ _ s
  rw [if_neg hno, back]
  first
    | exact wpAny_bind (m := Builtin.Tuple.tupleExact _) (wpAny_newObj_type (wpAny_pure ⟨_, rfl, wpAny_pure h⟩) hzz)
    | exact wpAny_bind (m := Builtin.Tuple.tupleExact _) (wpAny_newObj_type (wpAny_bind (wpAny_pure (wpAny_pure ⟨_, rfl, wpAny_pure h⟩))) hzz)
    | exact wpAny_bind (wpAny_bind (m := Builtin.Tuple.tupleExact _) (wpAny_newObj_type (wpAny_pure (wpAny_pure ⟨_, rfl, wpAny_pure h⟩)) hzz))
theorem se_rev {k : Nat} {p1 p3 p4 : Pos} (he : SO q X e D) : SE q X (.Subscript e (.Slice none none (some (.UnaryOp .USub (.Constant (.int 1) k p1) p3)) p4) pos) (c1 revV D) := by
  refine ⟨fun pins s σ H Q I ⟨F, τ, L, z, τ', s0, g, ev, post⟩ => ?_⟩
  obtain ⟨⟨x, τ1⟩, e1, ev⟩ := bind_eq ev
  obtain ⟨z', e2, ev⟩ := bind_eq ev
  cases ev
  refine Subscript_ (thn (he.run pins s σ H _ I ⟨F, τ, L, x, _, s0, g, e1, fun v F1 H1 L1 Lr h1 s1 st1 => (⟨F1, L1, Lr, h1, s1, st1⟩ : ∃ F1 L1 Lr, VR X.prog X.w X.K F1 H1 v x Lr ∧ SR X.prog X.w X.K F1 H1 σ τ1 L1 ∧ Step q F H L F1 H1 L1)⟩) fun v s1 ⟨vx, H1, I1, r1, F1, L1, Lr, h1, sr1, st1⟩ => ?_)
  have hst : PO X (some (.UnaryOp .USub (.Constant (.int 1) k p1) p3)) (tPart (tUn (rU fun i => .int (-i)) (tC (.int 1)))) := po_some (pe_un un_neg pe_int)
  refine wpAny_Slice (thn (po_none.run pins s1 σ H1 (fun o H2 => o = none ∧ H2 = H1) I1 ⟨rfl, rfl⟩) fun vl s2 ⟨l, H2, I2, pl, el, e2'⟩ => ?_)
  subst el e2'
  refine thn (po_none.run pins s2 σ H2 (fun o H3 => o = none ∧ H3 = H2) I2 ⟨rfl, rfl⟩) fun vu s3 ⟨u, H3, I3, pu, eu, e3⟩ => ?_
  subst eu e3
  refine thn (hst.run pins s3 σ H3 (fun o H4 => o = some (-1) ∧ H4 = H3) I3 ⟨1, rfl, -1, rfl, rfl, rfl⟩) fun vs s4 ⟨o, H4, I4, ps, eo, e4⟩ => ?_
  subst eo e4
  cases pl
  cases pu
  cases ps with
  | int _ tk =>
  have I5 : Inv X pins σ H4 { s4 with heap := s4.heap.push { cls := .type "slice", data := .fields #[.none, .none, .int (-1) tk] } } := I4.kept (t' := s4.toks) fun b ob qq => Heap.get?_push_of_some _ qq
  have e2 : revV x = some z := e2
  unfold revV at e2
  split at e2
  · split at e2
    · rename_i hp
      cases e2
      obtain ⟨a, ws, L0, rfl, ha, hws⟩ := h1.lst_inv
      cases r1
      have hw := hws.pureL hp
      obtain ⟨its, r, ht, hz⟩ := I5.list (SqL.of ha)
      have hlen := r.length
      show wpAny (model X.prog X.w) X.A (subscriptTail e (.Slice none none (some (.UnaryOp .USub (.Constant (.int 1) k p1) p3)) p4) (.ref a) (.ref s4.heap.objs.size)) (EP X pins σ Q) X.xe { s4 with heap := s4.heap.push { cls := .type "slice", data := .fields #[.none, .none, .int (-1) tk] } }
      refine tail_any (ops := [.ref a, .ref s4.heap.objs.size]) ht.isList.typeIs (PySem.slot_list_getitem.lookup) ?_ (by with_unfolding_all rfl)
      refine wpAny_getItem_list_slice ht.isList (Heap.IsSliceOf.new _ .none .none (.int (-1) tk)) .none .none (.int _ _) (by decide) ?_ (by rw [List.size_toArray]; omega)
      rw [PySem.W.krv_pick]
      have np := I5.hok.fresh (Nat.le_refl _)
      refine ⟨.ref _, _, I5.laid (t' := s4.toks) (o := .lst ws.reverse) (fun b ob qq => Heap.get?_push_of_some _ qq) (Nat.le_refl _) ?_, rfl, ?_⟩
      · exact ⟨by rw [List.length_reverse]; exact hz, _, 0, r.reverse, Heap.get?_push_size _ rfl⟩
      · refine post_lst (P := X.prog) (w := X.w) (K := X.K) (F := F1) st1.good.ft (fun v F2 H2 M h2 st2 => ?_) hw.reverse np
        exact post v F2 H2 L1 M h2 (sr1.stepQ st2 st1.good.ft) (st1.op st2)
    · cases e2
  · split at e2
    · rename_i hp
      cases e2
      obtain ⟨a, ws, rfl, ha, hws⟩ := h1.tup_inv
      cases r1
      have hw := hws.pureL hp
      obtain ⟨its, r, ht, hz⟩ := I5.tuple ha.sq
      have hlen := r.length
      show wpAny (model X.prog X.w) X.A (subscriptTail e (.Slice none none (some (.UnaryOp .USub (.Constant (.int 1) k p1) p3)) p4) (.ref a) (.ref s4.heap.objs.size)) (EP X pins σ Q) X.xe { s4 with heap := s4.heap.push { cls := .type "slice", data := .fields #[.none, .none, .int (-1) tk] } }
      refine tail_any (ops := [.ref a, .ref s4.heap.objs.size]) ht.typeIs (PyProof.Rows.slot_tuple_getitem.lookup) ?_ (by with_unfolding_all rfl)
      have np := I5.hok.fresh (Nat.le_refl _)
      refine getItem_tuple_back ht (Heap.IsSliceOf.new _ .none .none (.int (-1) tk)) ?_ (by rw [List.size_toArray]; omega)
      refine ⟨.ref _, _, I5.laid (t' := s4.toks) (o := .tup ws.reverse) (fun b ob qq => Heap.get?_push_of_some _ qq) (Nat.le_refl _) ?_, rfl, ?_⟩
      · exact ⟨by rw [List.length_reverse]; exact hz, _, r.reverse, IsTup.new _ _⟩
      · refine post_tup (P := X.prog) (w := X.w) (K := X.K) (F := F1) st1.good.ft (fun v F2 H2 M h2 st2 => ?_) hw.reverse np
        exact post v F2 H2 L1 M h2 (sr1.stepQ st2 st1.good.ft) (st1.op st2)
    · cases e2
  · cases e2
end

/-! a, b, c = e1, e2, e3 -/
def parM3 (i j k : Nat) (Ds : Evs) : Sv := fun τ => (Ds τ).bind fun p => match p.1 with
  | [x, y, z] => some (.next, ((p.2.set i (some x)).set j (some y)).set k (some z))
  | _ => none

/-! xs[k] = e, xs a list that a slot owns -/
def setItemM (i : Nat) (Dk De : Ev) : Sv := fun τ => (De τ).bind fun p => (p.2[i]?).bind fun o => o.bind fun _ => (Dk p.2).bind fun r => (r.2[i]?).bind fun o => o.bind fun x => match x, r.1 with
  | .lst true xs, .int k => if (p.1.pure && pureL xs) = true then (ixN xs.length k).bind fun j => some (.next, r.2.set i (some (.lst true (xs.set j p.1)))) else none
  | _, _ => none
section
variable {P : Program} {w : World} {K : PySem.W.Frag} {F : Addr → Prop} {H : Hp}
theorem VRs.set {vs : List V} {xs : List Val} {v : V} {x : Val} (j : Nat) (h : VRs P w K F H vs xs []) (hv : VR P w K F H v x []) : VRs P w K F H (vs.set j v) (xs.set j x) [] := by
  refine .of_get (by rw [List.length_set, List.length_set, h.length]) fun i u y e1 e2 => ?_
  by_cases hij : j = i
  · subst hij
    have hl : j < vs.length := by
      rcases Nat.lt_or_ge j vs.length with c | c
      · exact c
      · rw [List.getElem?_eq_none (by simpa using c)] at e1; cases e1
    rw [List.getElem?_set_self hl] at e1
    rw [List.getElem?_set_self (by rw [← h.length]; exact hl)] at e2
    cases e1
    cases e2
    exact hv
  · rw [List.getElem?_set_ne hij] at e1 e2
    exact h.get' e1 e2
theorem VR.lstT_inv {v : V} {xs : List Val} {L : List Addr} (h : VR P w K F H v (.lst true xs) L) : ∃ a vs L0, v = .ref a ∧ H a = some (.lst vs) ∧ VRs P w K F H vs xs L0 ∧ L = a :: L0 := by
  cases h with
  | @lst a _ vs _ L0 _ hA hvs =>
    unfold At at hA
    simp only [if_true] at hA
    exact ⟨a, vs, L0, rfl, hA.1, hvs, hA.2⟩
/-- what is owned at a is written: all else stands -/
theorem Step.write {L : List Addr} {a : Addr} {o : HO} (g : Good F H L) (ha : a ∈ L) : Step false F H L F (upd H a o) L := by
  have nf : ∀ b, F b → b ≠ a := fun b hb e => g.nf a ha (e ▸ hb)
  refine ⟨⟨g.nd, g.nf, fun b hb => by rw [upd_ne (nf b hb)]; exact g.ft b hb, fun b hb => ?_⟩, fun _ z => z, fun b h1 h2 => upd_ne fun e => h2 (e ▸ ha), fun b h => ?_, fun _ z => .inl z, fun _ z => .inl z, fun z => nomatch z⟩
  · by_cases c : b = a
    · subst c; rw [upd_same]; exact fun z => nomatch z
    · rw [upd_ne c]; exact g.lt b hb
  · by_cases c : b = a
    · subst c; rw [upd_same]; exact fun z => nomatch z
    · rw [upd_ne c]; exact h
end
section
variable {X : Cx} {q : Bool} {n : Nat}
theorem ss_par3 {i j l : Nat} {x y z : Str} {a b c : Expr} {Ds : Evs} {px py pz pt pos : Pos} {kt k2 : Nat} {pt2 : Pos} (hc : X.calm = true) (hN : X.N.Nodup) (hij : i ≠ j) (hil : i ≠ l) (hjl : j ≠ l) (hni : n ≤ i) (hnj : n ≤ j) (hnl : n ≤ l) (ha : SEs q X [a, b, c] Ds)
    (hi : X.N[i]? = some x := by rfl) (hj : X.N[j]? = some y := by rfl) (hl : X.N[l]? = some z := by rfl)
    (hx : X.env.scope.names.lookup x = some .local := by rfl) (hy : X.env.scope.names.lookup y = some .local := by rfl) (hz : X.env.scope.names.lookup z = some .local := by rfl)
    (hw : swappedStores [.Tuple [.Name x px, .Name y py, .Name z pz] kt pt] (.Tuple [a, b, c] k2 pt2) X.env = Pure.pure (some [x, y, z]) := by rfl)
    (hs : swapsWithSole [.Tuple [.Name x px, .Name y py, .Name z pz] kt pt] (.Tuple [a, b, c] k2 pt2) pos.line X.env = Pure.pure false := by rfl) :
    SS n X (.Assign [.Tuple [.Name x px, .Name y py, .Name z pz] kt pt] (.Tuple [a, b, c] k2 pt2) pos) (parM3 i j l Ds) :=
  psI (ps_par3 hc hN hi hj hl hij hil hjl hx hy hz ha hw hs) fun D σ H ⟨F, τ, L, fl, τ', s, g, ev, post⟩ => by
    obtain ⟨⟨xs, τ1⟩, e1, ev⟩ := bind_eq ev
    match xs, ev, e1 with
    | [x1, x2, x3], ev, e1 =>
      cases ev
      refine ⟨F, τ, L, [x1, x2, x3], τ1, s, g, e1, fun vs F1 H1 L1 Lr h1 s1 st1 => ?_⟩
      cases h1 with
      | @cons v1 _ La vr _ Lb h1 t =>
        cases t with
        | @cons v2 _ Lb vr2 _ Lc h2 t2 =>
          cases t2 with
          | @cons v3 _ Lc vr3 _ Ld h3 t3 =>
            cases t3
            refine ⟨v1, v2, v3, rfl, ?_⟩
            obtain ⟨L2, s2, sb⟩ := s1.put (i := i) h1
            obtain ⟨L3, s3, sb3⟩ := s2.put (i := j) h2
            obtain ⟨L4, s4, sb4⟩ := s3.put (i := l) h3
            refine post _ F1 H1 L4 s4 (st1.sub ?_).weak (((Keep.set hni).trans (Keep.set hnj)).trans (Keep.set hnl))
            refine sb4.trans (((sb3.trans (sb.app (Sub.refl Lb))).app (Sub.refl Lc)).trans ?_)
            rw [List.append_nil, List.append_assoc, List.append_assoc]
            exact Sub.refl _
    | [], ev, _ => exact nomatch ev
    | [_], ev, _ => exact nomatch ev
    | [_, _], ev, _ => exact nomatch ev
    | _ :: _ :: _ :: _ :: _, ev, _ => exact nomatch ev
theorem ss_setItem {i : Nat} {y : Str} {k e : Expr} {Dk De : Ev} {yp tp pos : Pos} (he : SE q X e De) (hk : SO true X k Dk) (hN : X.N[i]? = some y := by rfl) (hv : Vis X.env.scope y := by first | exact Or.inl rfl | exact Or.inr (Or.inl rfl) | exact Or.inr (Or.inr rfl))
    (hd : (y == ("__debug__" : Str)) = false := by decide) (hcd : (y == ("__classdict__" : Str)) = false := by decide)
    (ha : ∀ v, assign (.Subscript (.Name y yp) k tp) X.env v = (do
      let ov ← holding [v] (eval (.Name y yp) X.env)
      let iv ← holding [v, ov] (eval k X.env)
      standAt tp
      holding [v, ov, iv] (setItem ov iv v)
      release [v, ov, iv] []) := by intro _; rfl)
    (hs : swapsWithSole [.Subscript (.Name y yp) k tp] e pos.line X.env = Pure.pure false := by rfl) (hw : swappedStores [.Subscript (.Name y yp) k tp] e X.env = Pure.pure none := by rfl)
    (h1 : (assignEach [.Subscript (.Name y yp) k tp] X.env).map (·.2) = [assign (.Subscript (.Name y yp) k tp) X.env] := by rfl) : SS n X (.Assign [.Subscript (.Name y yp) k tp] e pos) (setItemM i Dk De) :=
  psI (ps_asg he (pg_sub (pe_var hN hv hd hcd) hk set_list ha) hs hw h1) fun D σ H ⟨F, τ, L, fl, τ', s, g, ev, post⟩ => by
    obtain ⟨⟨x, τ1⟩, e1, ev⟩ := bind_eq ev
    obtain ⟨y0, e0, ev⟩ := slot_some ev
    obtain ⟨⟨kx, τ2⟩, e2, ev⟩ := bind_eq ev
    obtain ⟨yv, e3, ev⟩ := slot_some ev
    dsimp only at ev e3 e0
    split at ev
    · rename_i xs ki _
      split at ev
      · rename_i hp
        rw [Bool.and_eq_true] at hp
        obtain ⟨j, e4, ev⟩ := bind_eq ev
        cases ev
        refine ⟨F, τ, L, x, τ1, s, g, e1, fun v F1 H1 L1 Lr hv1 s1 st1 => ?_⟩
        have hLr := hv1.pure_nil hp.1
        subst hLr
        rw [List.append_nil] at st1
        obtain ⟨v0, _, _, a0, _⟩ := s1.at e0
        refine ⟨v0, a0, F1, τ1, L1, _, τ2, s1, st1.good, e2, fun vk F2 H2 L2 Lk hk2 s2 st2 => ?_⟩
        obtain ⟨v1, Li, Lq, a1, a2, p, _, _, fill⟩ := s2.at e3
        rw [a0] at a1
        have ev1 : v0 = v1 := Option.some.inj (Option.some.inj a1)
        subst ev1
        obtain ⟨a, vs, L0, rfl, hHa, hvs, rfl⟩ := a2.lstT_inv
        have hpv := hvs.pureL hp.2
        have hL0 := hvs.pure_nil hp.2
        subst hL0
        cases hk2
        have haL : a ∈ L2 := p.mem_iff.mpr (List.mem_append_right _ (List.mem_singleton.mpr rfl))
        refine ⟨a, vs, ki, j, rfl, rfl, hHa, by rw [hpv.length]; exact e4, ?_⟩
        have stw := Step.write (o := .lst (vs.set j v)) st2.good haL
        have ne : ∀ b, b ≠ a → upd H2 a (.lst (vs.set j v)) b = H2 b := fun b h => upd_ne h
        have nF : ∀ b, F2 b → b ≠ a := fun b hb e => st2.good.nf a haL (e ▸ hb)
        have hv2 := hv1.stepQ st2 st1.good.ft
        have hnew : VRs X.prog X.w X.K F2 (upd H2 a (.lst (vs.set j v))) (vs.set j v) (xs.set j x) [] :=
          (hpv.set j hv2).mono (fun _ z => z) (fun b hb => ne b (nF b hb)) (fun b hb => nomatch hb)
        have hA : At F2 (upd H2 a (.lst (vs.set j v))) true a (.lst (vs.set j v)) [] [a] := by
          show (if true = true then _ else _)
          rw [if_pos rfl]
          exact ⟨upd_same, rfl⟩
        have hi : i < τ2.length := by
          rcases Nat.lt_or_ge i τ2.length with c | c
          · exact c
          · rw [List.getElem?_eq_none c] at e3; cases e3
        obtain ⟨_, _, _, _, _, p', _, sn, _⟩ := s2.at e3
        have nd := (List.nodup_append.mp ((st2.good.sub (Sub.of_perm p.symm)).nd)).2.2
        rename_i _ _ Lq'
        have sn2 : ∃ Lz, SR X.prog X.w X.K F2 H2 σ (τ2.set i none) Lz ∧ Sub Lz L2 ∧ a ∉ Lz := by
          obtain ⟨w1, Lw, Lx, b1, b2, b3, _, b5, _⟩ := s2.at e3
          rw [a0] at b1
          have ew : V.ref a = w1 := Option.some.inj (Option.some.inj b1)
          subst ew
          obtain ⟨a', vs', L0', ea, _, _, rfl⟩ := b2.lstT_inv
          cases ea
          refine ⟨Lx, b5, (Sub.left _ _).trans (Sub.of_perm b3.symm), fun z => ?_⟩
          exact (List.nodup_append.mp ((st2.good.sub (Sub.of_perm b3.symm)).nd)).2.2 a z a List.mem_cons_self rfl
        obtain ⟨Lz, sz, sub, na⟩ := sn2
        have sz2 : SR X.prog X.w X.K F2 (upd H2 a (.lst (vs.set j v))) σ (τ2.set i none) Lz := sz.mono (fun _ z => z) (fun b hb => ne b (nF b hb)) fun b hb => ne b fun e => na (e ▸ hb)
        have sf := sz2.fill a0 hi (.lst hA hnew)
        refine post σ F2 _ _ sf ?_ .refl
        have st12 := (st1.trans st2).andT
        refine (st12.weak.trans stw).sub ?_
        -- the owned addresses are as they were
        have nz : (Lz ++ [a]).Nodup := List.nodup_append.mpr ⟨sub.nodup st2.good.nd, by simp, fun b hb c hc e => by
          rw [List.mem_singleton.mp hc] at e
          exact na (e ▸ hb)⟩
        have key : ∀ (M N : List Addr), M.Nodup → (∀ b ∈ M, b ∈ N) → Sub M N := by
          intro M
          induction M with
          | nil => intro N _ _; exact Sub.nil N
          | cons b M ih =>
            intro N hn hs
            obtain ⟨hb, hn⟩ := List.nodup_cons.mp hn
            have hbN := hs b List.mem_cons_self
            have e := (List.perm_cons_erase hbN)
            obtain ⟨R, hR⟩ := ih (N.erase b) hn fun c hc => (List.mem_erase_of_ne (fun (e : c = b) => hb (by rw [← e]; exact hc))).mpr (hs c (List.mem_cons_of_mem _ hc))
            exact ⟨R, e.trans (hR.cons b)⟩
        exact key _ _ nz fun b hb => (List.mem_append.mp hb).elim (fun z => sub.mem z) fun z => by rw [List.mem_singleton.mp z]; exact haL
      · cases ev
    · cases ev
end
end MV
end

section
set_option maxHeartbeats 4000000
/-! enumerate and zip walked -/
namespace MV
open PySem PySem.Spec PyProof.Rows L2 RZ

/-! enumerate of a tuple -/
/-- the tuple at a, each item in a new pair with its number -/
def IteT (K : PySem.W.Frag) (a : Addr) : It :=
  ⟨fun i H => ∃ (xs : List V) (x : V), SqT K H a xs ∧ xs[i]? = some x, fun i H v H' => ∃ T x, v = .ref T ∧ H T = none ∧ H' = upd H T (.tup [.int (i : Nat), x]) ∧ ∀ xs, SqT K H a xs → xs[i]? = some x,
    fun i H => ∃ xs : List V, SqT K H a xs ∧ xs.length ≤ i⟩
theorem turn_enumT {P : Program} {w : World} {K : PySem.W.Frag} {elts : List Expr} {kk : Nat} {tpos : Pos} (a e it : Addr) (hea : e ≠ a) (hia : it ≠ a) :
    Turn P w K (.Tuple elts kk tpos) (IteT K a) [e, it] e (fun i h => (∃ old, IsEnum h e it ((i : Nat) : Int) old) ∧ h.IsTupleIter it a i ∧ e ≠ it) where
  mem := by simp
  obj := fun i h st b hb => by
    obtain ⟨⟨old, he⟩, ⟨o, ho, hc, hd⟩, _⟩ := st
    rcases List.mem_cons.mp hb with z | z
    · subst z; exact ⟨_, he, fun v k => nomatch k⟩
    · rw [List.mem_singleton.mp z]; exact ⟨o, ho, fun v k => by rw [hd] at k; cases k⟩
  keep := fun i h h' st k => let ⟨⟨old, he⟩, hi, hne⟩ := st; ⟨⟨old, k e (by simp) _ he⟩, hi.at fun o z => k it (by simp) o z, hne⟩
  item := by
    intro X hP hw hK hc i pins s σ H E I hf st hg
    subst hP hw hK
    obtain ⟨⟨old, he⟩, hit, hne⟩ := st
    obtain ⟨xs, x, hq, hx⟩ := hg
    obtain ⟨its, rv, p, hz⟩ := I.tuple hq
    obtain ⟨u, hu, ru⟩ := rv.get hx
    have hel : e < s.heap.objs.size := Heap.lt_size he
    have hil : it < s.heap.objs.size := by obtain ⟨_, z, _⟩ := hit; exact Heap.lt_size z
    have hh : X.A.in1.handled = none := I.ok.hd hc
    have hlen : i < its.toArray.size := by
      rw [List.size_toArray, ← rv.length]
      rcases Nat.lt_or_ge i xs.length with c | c
      · exact c
      · rw [List.getElem?_eq_none c] at hx; cases hx
    refine wpAny_pyNext_enum_itemD (PySem.Draws.tuple (prog := X.prog) (w := X.w) (A := X.A.in1) hh it a (Ne.symm hia) its.toArray) he ⟨hit, p⟩ hlen hne (by simp [hne, hea]) fun u' h' tk hu' ho hst hT hsz hk => ?_
    obtain ⟨hit', _⟩ := hst
    have eu : u' = u := by
      have h1 : its.toArray[i]? = some u := by simpa using hu
      rw [h1] at hu'
      exact (Option.some.inj hu').symm
    subst eu
    refine ⟨_, rfl, wpAny_letOwnedTupleGo_enum (s := { s with heap := h', toks := tk + 1 }) ho fun h'' he' sb => ?_⟩
    have hT2 : h''.get? s.heap.objs.size = some { cls := .type "tuple", data := .seq #[.int i tk, u'] } := (sb.2 _ (Nat.ne_of_gt hel)).trans hT
    have new : ObjOk X.prog X.w (upd H s.heap.objs.size (.tup [.int (i : Nat), x])) h'' s.heap.objs.size (.tup [.int (i : Nat), x]) :=
      ⟨by show 2 ≤ sizeLine; decide, [.int i tk, u'], .cons ⟨_, rfl⟩ (.cons ru .nil), ⟨_, hT2, rfl, _, rfl⟩⟩
    have I1 : Inv X pins σ (upd H s.heap.objs.size (.tup [.int (i : Nat), x])) { s with heap := h'', toks := tk + 1 } :=
      I.turnedNew (ch := [e, it]) (fun b ob hb z => (sb.2 b (fun c => hb (by simp [c]))).trans (hk b ob (fun c => hb (by simp [c])) (fun c => hb (by simp [c])) z)) hf (Nat.le_refl _) new
    refine ⟨.ref s.heap.objs.size, _, I1, rfl, ⟨_, x, rfl, I.hok.fresh (Nat.le_refl _), rfl, fun ys hy => by rw [I.tuple_inj hy hq]; exact hx⟩, ⟨⟨u', ?_⟩, hit'.at fun o z => (sb.2 it (Ne.symm hne)).trans z, hne⟩, fun b hb => ?_⟩
    · rw [show ((i + 1 : Nat) : Int) = (i : Int) + 1 by omega]
      exact he'
    · have hb' : b < s.heap.objs.size := by
        rcases List.mem_cons.mp hb with z | z
        · rw [z]; exact hel
        · rw [List.mem_singleton.mp z]; exact hil
      rw [upd_ne (Nat.ne_of_lt hb')]
      exact (hf b hb).1
  done := by
    intro X hP hw hK hc i pins s σ H E I hf st hg
    subst hP hw hK
    obtain ⟨⟨old, he⟩, hit, hne⟩ := st
    obtain ⟨xs, hq, hx⟩ := hg
    obtain ⟨its, rv, p, hz⟩ := I.tuple hq
    obtain ⟨f0, f1, f2, f3, f4, f5⟩ := hf it (by simp)
    have hh : X.A.in1.handled = none := I.ok.hd hc
    have hT : s.TypeIs (.ref e) "enumerate" := ⟨_, he, rfl⟩
    unfold pyNext
    refine wpAny_bind (wpAny_attempt (wpAny_callSpecial?_slot (name := Str.ofString "__next__") hT PySem.F.slot_enumerate_next
      (wpAny_call_entry PySem.F.slot_enumerate_next hT PySem.F.entry_enumerate_next ?_ (PySem.F.args_enumerate_next_1 _))))
    show wpAny _ _ (field (.ref e) 2 >>= _) _ _ _
    refine wpAny_bind (wpAny_field he rfl (x := .ref it) rfl ?_)
    refine wpAny_bind (wpAny_nextOf_tuple_end hh hit p (by rw [List.getElem?_toArray]; exact List.getElem?_eq_none (by rw [← rv.length]; exact hx)) fun h' y hy hs => ?_)
    obtain ⟨o, ho, hcl⟩ := hs
    refine wpAny_bind (wpAny_isInstance (T := "StopIteration") (b := true) ⟨o, ho, hcl⟩ isSubtype_stop ?_)
    exact wpAny_pure ⟨rfl, I.turned (t' := s.toks) (fun b ob hb z => hy b ob hb z) f0 f1 f3 f4 f5⟩
  self := fun A i s Q E st h => let ⟨⟨_, he⟩, _⟩ := st; wpAny_pyIter_enum he h

/-- enumerate(t) -/
theorem meets_enumerate_newT (l : Addr) (items : Array Value) (n : Nat) (dct : Option Addr) (sl : Array (Option Value)) :
    Meets (Builtin.«enumerate.__new__» ⟨[.type "enumerate", .ref l], []⟩) (fun _ R s => s.heap.get? l = some { cls := .type "tuple", dict := dct, data := .seq items n, slots := sl } ∧
      R (.ok (.ret (.ref (s.heap.push { cls := .type "tuple_iterator", data := .fields #[.ref l, .int 0 0] }).objs.size)))
        { s with heap := (s.heap.push { cls := .type "tuple_iterator", data := .fields #[.ref l, .int 0 0] }).push { cls := .type "enumerate", data := .fields #[.none, .bool false, .ref s.heap.objs.size, rawInt 0, .none, .none] } }) :=
  .of_wp fun prog w A R s h => by
    obtain ⟨hp, g, d, tk, os⟩ := s
    obtain ⟨hl, h⟩ := h
    have hsub := sub_enumerate
    have hL : Heap.IsTuple (Shared.heap ⟨hp, g, d, tk, os⟩) l items := ⟨_, hl, rfl, n, rfl⟩
    wp_walk using wpAny_loadPart' hl
    refine wpAny_stack_any fun st => wpAny_pure ?_
    split
    · rename_i c _ _ _ _ _
      cases (c == Value.type "enumerate")
      · wp_walk using wpAny_loadPart' hl, wpAny_pyIter_tuple hL
        exact ⟨_, rfl, h⟩
      · wp_walk using wpAny_loadPart' hl, wpAny_pyIter_tuple hL
        exact ⟨_, rfl, h⟩
    · wp_walk using wpAny_loadPart' hl, wpAny_pyIter_tuple hL
      exact ⟨_, rfl, h⟩
theorem call_enumerate_tuple {prog : Program} {w : World} {A : Around} {E : Value → Shared → Prop} {s : Shared} {l : Addr} {items : Array Value} {Q : Value → Shared → Prop} (hL : s.heap.IsTuple l items)
    (h : ∀ h', IsEnum h' (s.heap.objs.size + 1) s.heap.objs.size 0 .none → h'.IsTupleIter s.heap.objs.size l 0 → h'.objs.size = s.heap.objs.size + 2 →
      (∀ b o, s.heap.get? b = some o → h'.get? b = some o) → Q (.ref (s.heap.objs.size + 1)) { s with heap := h' }) :
    wpAny (model prog w) A (call (.type "enumerate") [.ref l]) Q E s := by
  obtain ⟨⟨c, dct, dt, sl⟩, hl, hc, n, hd⟩ := hL
  obtain rfl : c = .type "tuple" := hc
  obtain rfl : dt = .seq items n := hd
  refine callType_new PySem.F.called_enumerate (by decide) (PySem.F.typeCall_enumerate_1 _) (PySem.F.newCall_enumerate_1 _) (fun obj => PySem.F.args_object_init_2 obj _) PySem.F.entry_enumerate_new
    (meets_enumerate_newT l items n dct sl) ⟨hl, ?_⟩
  have hz : (s.heap.push { cls := .type "tuple_iterator", data := .fields #[.ref l, .int 0 0] }).objs.size = s.heap.objs.size + 1 := Heap.size_push ..
  show _ ∧ _
  rw [hz]
  have he : IsEnum ((s.heap.push { cls := .type "tuple_iterator", data := .fields #[.ref l, .int 0 0] }).push { cls := .type "enumerate", data := .fields #[.none, .bool false, .ref s.heap.objs.size, rawInt 0, .none, .none] }) (s.heap.objs.size + 1) s.heap.objs.size 0 .none := by
    have k := Heap.get?_push_size (s.heap.push { cls := .type "tuple_iterator", data := .fields #[.ref l, .int 0 0] }) (o := { cls := .type "enumerate", data := .fields #[.none, .bool false, .ref s.heap.objs.size, rawInt 0, .none, .none] }) rfl
    rw [hz] at k
    exact k
  exact ⟨⟨_, he, rfl⟩, h _ he ⟨_, Heap.get?_push_of_some _ (Heap.get?_push_size _ rfl), rfl, rfl⟩ (by rw [Heap.size_push, hz]) fun b o x => Heap.get?_push_of_some _ (Heap.get?_push_of_some _ x)⟩

/-! the sources -/
def enumF (k : Nat) : List Val → List Val
  | [] => []
  | x :: r => .tup [.int k, x] :: enumF (k + 1) r
def zipF : List Val → List Val → List Val
  | x :: xs, y :: ys => .tup [x, y] :: zipF xs ys
  | _, _ => []
def Val.seq? : Val → Option (List Val)
  | .lst _ xs => some xs
  | .tup xs => some xs
  | _ => none
def seqI (D : Ev) : Evs := fun τ => (D τ).bind fun p => (p.1.seq?).bind fun xs => some (frzL xs, p.2)
def enumI (D : Ev) : Evs := fun τ => (D τ).bind fun p => (p.1.seq?).bind fun xs => some (enumF 0 (frzL xs), p.2)
def zipI (Ds : Evs) : Evs := fun τ => (Ds τ).bind fun p => match p.1 with
  | [.lst _ xs, .lst _ ys] => some (zipF (frzL xs) (frzL ys), p.2)
  | [.tup xs, .tup ys] => some (zipF (frzL xs) (frzL ys), p.2)
  | _ => none
theorem enumF_get : ∀ (xs : List Val) (k i : Nat), (enumF k xs)[i]? = xs[i]?.map fun x => .tup [.int ((k + i : Nat) : Int), x]
  | [], _, _ => by simp [enumF]
  | x :: r, k, 0 => by simp [enumF]
  | x :: r, k, i + 1 => by
    show (enumF (k + 1) r)[i]? = _
    rw [enumF_get r (k + 1) i, List.getElem?_cons_succ, show k + 1 + i = k + (i + 1) by omega]
theorem enumF_length : ∀ (xs : List Val) (k : Nat), (enumF k xs).length = xs.length
  | [], _ => rfl
  | x :: r, k => congrArg (· + 1) (enumF_length r (k + 1))
theorem enumF_pure : ∀ (xs : List Val) (k : Nat), pureL xs = true → pureL (enumF k xs) = true
  | [], _, _ => rfl
  | x :: r, k, h => by
    simp only [pureL, Bool.and_eq_true] at h
    simp only [enumF, pureL, Val.pure, h.1, enumF_pure r (k + 1) h.2, Bool.and_self, Bool.and_true]
theorem zipF_get : ∀ (xs ys : List Val) (i : Nat) (z : Val), (zipF xs ys)[i]? = some z → ∃ x y, xs[i]? = some x ∧ ys[i]? = some y ∧ z = .tup [x, y]
  | [], _, _, _, h => by simp [zipF] at h
  | _ :: _, [], _, _, h => by simp [zipF] at h
  | x :: xs, y :: ys, 0, z, h => by
    simp only [zipF, List.getElem?_cons_zero, Option.some.injEq] at h
    exact ⟨x, y, rfl, rfl, h.symm⟩
  | x :: xs, y :: ys, i + 1, z, h => zipF_get xs ys i z (by simpa [zipF] using h)
theorem zipF_length : ∀ (xs ys : List Val), (zipF xs ys).length = min xs.length ys.length
  | [], _ => by simp [zipF]
  | _ :: _, [] => by simp [zipF]
  | x :: xs, y :: ys => by
    simp only [zipF, List.length_cons, zipF_length xs ys]
    omega
theorem zipF_pure : ∀ (xs ys : List Val), pureL xs = true → pureL ys = true → pureL (zipF xs ys) = true
  | [], _, _, _ => by simp [zipF, pureL]
  | _ :: _, [], _, _ => by simp [zipF, pureL]
  | x :: xs, y :: ys, h, g => by
    simp only [pureL, Bool.and_eq_true] at h g
    simp only [zipF, pureL, Val.pure, h.1, g.1, zipF_pure xs ys h.2 g.2, Bool.and_self, Bool.and_true]
section
variable {P : Program} {w : World} {K : PySem.W.Frag}
/-- a new pair that a walk gives out -/
theorem pair_new {F : Addr → Prop} {H : Hp} {T : Addr} {u v : V} {x y : Val} (ft : ∀ a, F a → H a ≠ none) (np : H T = none) (hu : VR P w K F H u x []) (hv : VR P w K F H v y []) :
    ∃ F2, VR P w K F2 (upd H T (.tup [u, v])) (.ref T) (.tup [x, y]) [] ∧ Step true F H [] F2 (upd H T (.tup [u, v])) [] := by
  have st := Step.newF (o := .tup [u, v]) (good_nil ft) np
  have hs : VRs P w K F H [u, v] [x, y] ([] ++ ([] ++ [])) := .cons hu (.cons hv .nil)
  exact ⟨_, .tup (.inl ⟨.inr rfl, upd_same⟩) (VRs.stepQ hs st ft), st⟩
theorem jok_enumL {F : Addr → Prop} {H : Hp} {a : Addr} {vs : List V} {xs : List Val} (hF : F a) (hr : Rd H a (.lst vs)) (h : VRs P w K F H vs xs []) (hp : pureL xs = true) : JOk P w K F H (Ite K a) (enumF 0 xs) := by
  refine ⟨enumF_pure xs 0 hp, fun F' H' fs fh ft i => ?_⟩
  have hq : SqL K H' a vs := .inl (Rd.eqH (fh a hF) hr)
  have h' : VRs P w K F' H' vs xs [] := h.mono fs fh fun _ z => nomatch z
  refine ⟨fun z hz => ?_, fun hl => ⟨vs, hq, by rw [h.length]; rw [enumF_length] at hl; exact hl⟩⟩
  rw [enumF_get, Nat.zero_add] at hz
  cases hx : xs[i]? with
  | none => rw [hx] at hz; cases hz
  | some x =>
    rw [hx] at hz
    cases hz
    obtain ⟨v, L1, e1, e2, sb⟩ := h'.get hx
    have en : L1 = [] := List.sublist_nil.mp sb
    subst en
    refine ⟨⟨vs, v, hq, e1⟩, fun u H2 y => ?_⟩
    obtain ⟨T, x', rfl, np, rfl, y⟩ := y
    have eu : x' = v := Option.some.inj ((y vs hq).symm.trans e1)
    subst eu
    exact pair_new ft np (.int _) e2
theorem jok_enumT {F : Addr → Prop} {H : Hp} {a : Addr} {vs : List V} {xs : List Val} (ha : TupAt K F H a vs) (h : VRs P w K F H vs xs []) (hp : pureL xs = true) : JOk P w K F H (IteT K a) (enumF 0 xs) := by
  refine ⟨enumF_pure xs 0 hp, fun F' H' fs fh ft i => ?_⟩
  have hq : SqT K H' a vs := (ha.mono fs fh).sq
  have h' : VRs P w K F' H' vs xs [] := h.mono fs fh fun _ z => nomatch z
  refine ⟨fun z hz => ?_, fun hl => ⟨vs, hq, by rw [h.length]; rw [enumF_length] at hl; exact hl⟩⟩
  rw [enumF_get, Nat.zero_add] at hz
  cases hx : xs[i]? with
  | none => rw [hx] at hz; cases hz
  | some x =>
    rw [hx] at hz
    cases hz
    obtain ⟨v, L1, e1, e2, sb⟩ := h'.get hx
    have en : L1 = [] := List.sublist_nil.mp sb
    subst en
    refine ⟨⟨vs, v, hq, e1⟩, fun u H2 y => ?_⟩
    obtain ⟨T, x', rfl, np, rfl, y⟩ := y
    have eu : x' = v := Option.some.inj ((y vs hq).symm.trans e1)
    subst eu
    exact pair_new ft np (.int _) e2
theorem jok_zipL {F : Addr → Prop} {H : Hp} {a b : Addr} {vs us : List V} {xs ys : List Val} (hF : F a) (hr : Rd H a (.lst vs)) (h : VRs P w K F H vs xs []) (hp : pureL xs = true) (hF2 : F b) (hr2 : Rd H b (.lst us)) (h2 : VRs P w K F H us ys []) (hp2 : pureL ys = true) :
    JOk P w K F H (Itz K a b) (zipF xs ys) := by
  refine ⟨zipF_pure xs ys hp hp2, fun F' H' fs fh ft i => ?_⟩
  have hq : SqL K H' a vs := .inl (Rd.eqH (fh a hF) hr)
  have hq2 : SqL K H' b us := .inl (Rd.eqH (fh b hF2) hr2)
  have h' : VRs P w K F' H' vs xs [] := h.mono fs fh fun _ z => nomatch z
  have h2' : VRs P w K F' H' us ys [] := h2.mono fs fh fun _ z => nomatch z
  refine ⟨fun z hz => ?_, fun hl => ⟨vs, us, hq, hq2, by rw [h.length, h2.length]; rw [zipF_length] at hl; omega⟩⟩
  obtain ⟨x, y, hx, hy, rfl⟩ := zipF_get xs ys i z hz
  obtain ⟨v, L1, e1, e2, sb⟩ := h'.get hx
  have en : L1 = [] := List.sublist_nil.mp sb
  subst en
  obtain ⟨u, L2, e3, e4, sb2⟩ := h2'.get hy
  have en2 : L2 = [] := List.sublist_nil.mp sb2
  subst en2
  refine ⟨⟨vs, us, v, u, hq, hq2, e1, e3⟩, fun t H2 yl => ?_⟩
  obtain ⟨T, x', y', rfl, np, rfl, y1, y2⟩ := yl
  have eu : x' = v := Option.some.inj ((y1 vs hq).symm.trans e1)
  have eu2 : y' = u := Option.some.inj ((y2 us hq2).symm.trans e3)
  subst eu eu2
  exact pair_new ft np e2 e4
theorem jok_zipT {F : Addr → Prop} {H : Hp} {a b : Addr} {vs us : List V} {xs ys : List Val} (ha : TupAt K F H a vs) (h : VRs P w K F H vs xs []) (hp : pureL xs = true) (hb : TupAt K F H b us) (h2 : VRs P w K F H us ys []) (hp2 : pureL ys = true) :
    JOk P w K F H (ItzT K a b) (zipF xs ys) := by
  refine ⟨zipF_pure xs ys hp hp2, fun F' H' fs fh ft i => ?_⟩
  have hq : SqT K H' a vs := (ha.mono fs fh).sq
  have hq2 : SqT K H' b us := (hb.mono fs fh).sq
  have h' : VRs P w K F' H' vs xs [] := h.mono fs fh fun _ z => nomatch z
  have h2' : VRs P w K F' H' us ys [] := h2.mono fs fh fun _ z => nomatch z
  refine ⟨fun z hz => ?_, fun hl => ⟨vs, us, hq, hq2, by rw [h.length, h2.length]; rw [zipF_length] at hl; omega⟩⟩
  obtain ⟨x, y, hx, hy, rfl⟩ := zipF_get xs ys i z hz
  obtain ⟨v, L1, e1, e2, sb⟩ := h'.get hx
  have en : L1 = [] := List.sublist_nil.mp sb
  subst en
  obtain ⟨u, L2, e3, e4, sb2⟩ := h2'.get hy
  have en2 : L2 = [] := List.sublist_nil.mp sb2
  subst en2
  refine ⟨⟨vs, us, v, u, hq, hq2, e1, e3⟩, fun t H2 yl => ?_⟩
  obtain ⟨T, x', y', rfl, np, rfl, y1, y2⟩ := yl
  have eu : x' = v := Option.some.inj ((y1 vs hq).symm.trans e1)
  have eu2 : y' = u := Option.some.inj ((y2 us hq2).symm.trans e3)
  subst eu eu2
  exact pair_new ft np e2 e4
end
section
variable {X : Cx} {tg e e2 : Expr} {q : Bool} {D : Ev} {Ds : Evs} {p pos tpos : Pos} {elts : List Expr} {kk : Nat}
/-- what a walk asks of a frozen list, a frozen tuple -/
theorem frz_lst {P : Program} {w : World} {K : PySem.W.Frag} {F : Addr → Prop} {H : Hp} {v : V} {m : Bool} {xs : List Val} {L : List Addr} (h : VR P w K F H v (.lst m xs) L) :
    ∃ a vs, v = .ref a ∧ (F a ∨ a ∈ L) ∧ H a = some (.lst vs) ∧ VRs P w K (fun a => F a ∨ a ∈ L) H vs (frzL xs) [] := by
  have hf := h.frz (F' := fun a => F a ∨ a ∈ L) (fun _ z => .inl z) (fun a ha => .inr ha)
  simp only [Val.frz] at hf
  cases hf with
  | @lst a _ vs _ L0 _ hA hvs =>
    simp only [At, Bool.false_eq_true, if_false] at hA
    obtain ⟨h1, h2, rfl, _⟩ := hA
    exact ⟨a, vs, rfl, h1, h2, hvs⟩
theorem frz_tup {P : Program} {w : World} {K : PySem.W.Frag} {F : Addr → Prop} {H : Hp} {v : V} {xs : List Val} {L : List Addr} (h : VR P w K F H v (.tup xs) L) :
    ∃ a vs, v = .ref a ∧ TupAt K (fun a => F a ∨ a ∈ L) H a vs ∧ VRs P w K (fun a => F a ∨ a ∈ L) H vs (frzL xs) [] := by
  have hf := h.frz (F' := fun a => F a ∨ a ∈ L) (fun _ z => .inl z) (fun a ha => .inr ha)
  simp only [Val.frz] at hf
  cases hf with
  | @tup a vs _ _ hA hvs => exact ⟨a, vs, rfl, hA, hvs⟩
theorem SR.grow {P : Program} {w : World} {K : PySem.W.Frag} {F : Addr → Prop} {H : Hp} {σ : S2} {τ : Sl} {L Lr : List Addr} (s : SR P w K F H σ τ L) : SR P w K (fun a => F a ∨ a ∈ Lr) H σ τ L := s.mono (fun _ z => .inl z) (fun _ _ => rfl) fun _ _ => rfl
theorem si_seq (he : SE q X e D) : SI q X tg e (seqI D) := ⟨fun pins s σ H R I ⟨F, τ, L, xs, τ', s0, g, ev, post⟩ => by
  obtain ⟨⟨x, τ1⟩, e1, ev⟩ := bind_eq ev
  obtain ⟨ys, e2, ev⟩ := bind_eq ev
  cases ev
  refine thn (he.run pins s σ H _ I ⟨F, τ, L, x, _, s0, g, e1, fun v F1 H1 L1 Lr h1 s1 st1 => (⟨F1, L1, Lr, h1, s1, st1⟩ : ∃ F1 L1 Lr, VR X.prog X.w X.K F1 H1 v x Lr ∧ SR X.prog X.w X.K F1 H1 σ τ1 L1 ∧ Step q F H L F1 H1 (L1 ++ Lr))⟩) fun v s1 ⟨vx, H1, I1, r1, F1, L1, Lr, h1, sr1, st1⟩ => ?_
  have st2 := Step.freeze st1.good
  have e2' : x.seq? = some ys := e2
  cases x with
  | lst m zs =>
    cases e2'
    obtain ⟨a, vs, rfl, hF, hH, hvs⟩ := frz_lst h1
    cases r1
    obtain ⟨its, rv, pl, hz⟩ := I1.list (SqL.of hH)
    refine wpAny_pyIter_list pl.isList ?_
    refine ⟨s1.heap.objs.size, [s1.heap.objs.size], _, _, H1, rfl, I1.kept (t' := s1.toks) fun b o k => Heap.get?_push_of_some _ k, turn_list a _, ⟨_, Heap.get?_push_size _ rfl, rfl, rfl⟩, fun b hb => ?_, post _ _ H1 L1 sr1.grow (st1.trans st2).andT (jok_list hF (.inl hH) hvs (frzL_pure _))⟩
    rw [List.mem_singleton.mp hb]
    exact I1.fpOk (Nat.le_refl _) (I1.hok.fresh (Nat.le_refl _))
  | tup zs =>
    cases e2'
    obtain ⟨a, vs, rfl, hA, hvs⟩ := frz_tup h1
    cases r1
    obtain ⟨its, rv, pl, hz⟩ := I1.tuple hA.sq
    refine wpAny_pyIter_tuple (show s1.heap.IsTuple a its.toArray from pl) ?_
    refine ⟨s1.heap.objs.size, [s1.heap.objs.size], _, _, H1, rfl, I1.kept (t' := s1.toks) fun b o k => Heap.get?_push_of_some _ k, turn_tuple a _, ⟨_, Heap.get?_push_size _ rfl, rfl, rfl⟩, fun b hb => ?_, post _ _ H1 L1 sr1.grow (st1.trans st2).andT (jok_tup hA hvs (frzL_pure _))⟩
    rw [List.mem_singleton.mp hb]
    exact I1.fpOk (Nat.le_refl _) (I1.hok.fresh (Nat.le_refl _))
  | _ => exact nomatch e2'⟩
def iEnumA (K : PySem.W.Frag) (ta : TA) : TI := fun σ H R => ta σ H fun vs H1 => ∃ a xs, vs = [.ref a] ∧ ((SqL K H1 a xs ∧ R (Ite K a) H1) ∨ (SqT K H1 a xs ∧ R (IteT K a) H1))
theorem pi_enumA {ta : TA} (hg : Gl X "enumerate") (hm : X.mg "enumerate" = none) (ha : PA X [e] ta) (hs : starEach [e] X.env = [(false, eval e X.env)]) :
    PI X (.Tuple elts kk tpos) (.Call (.Name "enumerate" p) [e] [] pos) (iEnumA X.K ta) := by
  refine ⟨fun pins s σ H R I h => ?_⟩
  refine Call_ (ld_blt I hg hm boot_enumerate (PyProof.Rows.callWith_type1 (thn (ha.run pos pins s σ H _ I h) fun us s1 ⟨vs, H1, I1, r1, a, xs, ex, hq⟩ => ?_) hs rfl))
  subst ex
  rw [Vals.ref1 r1]
  have mem2 : ∀ {b : Addr}, b ∈ [s1.heap.objs.size + 1, s1.heap.objs.size] → s1.heap.objs.size ≤ b := fun {b} hb => by
    rcases List.mem_cons.mp hb with z | z
    · rw [z]; exact Nat.le_succ _
    · rw [List.mem_singleton.mp z]; exact Nat.le_refl _
  rcases hq with ⟨hq, qq⟩ | ⟨hq, qq⟩
  · obtain ⟨its, rv, p', hz⟩ := I1.list hq
    refine call_enumerate_list p'.isList fun h' he hit hsz hk => wpAny_pyIter_enum he ?_
    exact ⟨s1.heap.objs.size + 1, [s1.heap.objs.size + 1, s1.heap.objs.size], _, _, H1, rfl, I1.kept (t' := s1.toks) hk, turn_enum a (s1.heap.objs.size + 1) s1.heap.objs.size, ⟨⟨.none, he⟩, hit, Nat.succ_ne_self _⟩, fun b hb => I1.fpOk (mem2 hb) (I1.hok.fresh (mem2 hb)), qq⟩
  · obtain ⟨its, rv, p', hz⟩ := I1.tuple hq
    have hl : a < s1.heap.objs.size := p'.lt
    refine call_enumerate_tuple (show s1.heap.IsTuple a its.toArray from p') fun h' he hit hsz hk => wpAny_pyIter_enum he ?_
    exact ⟨s1.heap.objs.size + 1, [s1.heap.objs.size + 1, s1.heap.objs.size], _, _, H1, rfl, I1.kept (t' := s1.toks) hk, turn_enumT a (s1.heap.objs.size + 1) s1.heap.objs.size (Nat.ne_of_gt (Nat.lt_succ_of_lt hl)) (Nat.ne_of_gt hl), ⟨⟨.none, he⟩, hit, Nat.succ_ne_self _⟩, fun b hb => I1.fpOk (mem2 hb) (I1.hok.fresh (mem2 hb)), qq⟩
theorem si_enum (hm : X.mg "enumerate" = none) (ha : SE q X e D) (hg : Gl X "enumerate" := by rfl) (h0 : starEach (e :: []) X.env = (false, eval e X.env) :: starEach [] X.env := by rfl) (hs : starEach [e] X.env = [(false, eval e X.env)] := by rfl) :
    SI q X (.Tuple elts kk tpos) (.Call (.Name "enumerate" p) [e] [] pos) (enumI D) :=
  piI (pi_enumA hg hm (pa_cons ha pa_nil h0) hs) fun σ H R ⟨F, τ, L, xs, τ', s, g, ev, post⟩ => by
    obtain ⟨⟨x, τ1⟩, e1, ev⟩ := bind_eq ev
    obtain ⟨ys, e2, ev⟩ := bind_eq ev
    cases ev
    refine ⟨F, τ, L, x, _, s, g, e1, fun v F1 H1 L1 Lr h1 s1 st1 => ?_⟩
    have st2 := Step.freeze st1.good
    have e2' : x.seq? = some ys := e2
    cases x with
    | lst m zs =>
      cases e2'
      obtain ⟨a, vs, rfl, hF, hH, hvs⟩ := frz_lst h1
      exact ⟨a, vs, rfl, .inl ⟨SqL.of hH, post _ _ H1 L1 s1.grow (st1.trans st2).andT (jok_enumL hF (.inl hH) hvs (frzL_pure _))⟩⟩
    | tup zs =>
      cases e2'
      obtain ⟨a, vs, rfl, hA, hvs⟩ := frz_tup h1
      exact ⟨a, vs, rfl, .inr ⟨hA.sq, post _ _ H1 L1 s1.grow (st1.trans st2).andT (jok_enumT hA hvs (frzL_pure _))⟩⟩
    | _ => exact nomatch e2'
theorem si_zip (hm : X.mg "zip" = none) (ha : SEs q X [e, e2] Ds) (hg : Gl X "zip" := by rfl) (hs : starEach [e, e2] X.env = (false, eval e X.env) :: starEach [e2] X.env := by rfl) (hpl : (backTo pos (starEach [e2] X.env)).any (·.1) = false := by rfl) :
    SI q X (.Tuple elts kk tpos) (.Call (.Name "zip" p) [e, e2] [] pos) (zipI Ds) :=
  piI (pi_zipA hg hm ha hs hpl) fun σ H R ⟨F, τ, L, xs, τ', s, g, ev, post⟩ => by
    obtain ⟨⟨ys, τ1⟩, e1, ev⟩ := bind_eq ev
    dsimp only at ev
    split at ev
    · cases ev
      refine ⟨F, τ, L, _, _, s, g, e1, fun vs F1 H1 L1 Lr h1 s1 st1 => ?_⟩
      have st2 := Step.freeze st1.good
      have hf := h1.frz (F' := fun a => F1 a ∨ a ∈ Lr) (fun _ z => .inl z) (fun a ha => .inr ha)
      simp only [frzL, Val.frz] at hf
      obtain ⟨v, u, _, _, rfl, ha1, ha2⟩ := hf.inv2
      cases ha1 with
      | @lst a _ ws _ L0 _ hA hvs =>
        cases ha2 with
        | @lst b _ us _ L0' _ hB hus =>
          simp only [At, Bool.false_eq_true, if_false] at hA hB
          obtain ⟨hF, hH, rfl, _⟩ := hA
          obtain ⟨hF2, hH2, rfl, _⟩ := hB
          exact ⟨a, b, ws, us, rfl, .inl ⟨SqL.of hH, SqL.of hH2, post _ _ H1 L1 s1.grow (st1.trans st2).andT (jok_zipL hF (.inl hH) hvs (frzL_pure _) hF2 (.inl hH2) hus (frzL_pure _))⟩⟩
    · cases ev
      refine ⟨F, τ, L, _, _, s, g, e1, fun vs F1 H1 L1 Lr h1 s1 st1 => ?_⟩
      have st2 := Step.freeze st1.good
      have hf := h1.frz (F' := fun a => F1 a ∨ a ∈ Lr) (fun _ z => .inl z) (fun a ha => .inr ha)
      simp only [frzL, Val.frz] at hf
      obtain ⟨v, u, L3, L4, rfl, ha1, ha2⟩ := hf.inv2
      have n3 := ha1.pure_nil (by simp only [Val.pure]; exact frzL_pure _)
      have n4 := ha2.pure_nil (by simp only [Val.pure]; exact frzL_pure _)
      subst n3 n4
      obtain ⟨a, ws, rfl, hA, hvs⟩ := ha1.tup_inv
      obtain ⟨b, us, rfl, hB, hus⟩ := ha2.tup_inv
      exact ⟨a, b, ws, us, rfl, .inr ⟨hA.sq, hB.sq, post _ _ H1 L1 s1.grow (st1.trans st2).andT (jok_zipT hA hvs (frzL_pure _) hB hus (frzL_pure _))⟩⟩
    · cases ev
end
end MV
end

section
set_option maxHeartbeats 4000000
/-! hash tables of any size that comes here: from each hash each place is met; what is laid is found again -/
namespace MV
open PySem PySem.Spec PyProof.Rows L2

/-- a mask that has all ones, at most thirteen -/
def Ones (m : Nat) : Prop := ∃ k, 3 ≤ k ∧ (k ≤ 13 ∧ k % 2 = 1) ∧ m + 1 = 2 ^ k
theorem Ones.odd {m : Nat} (h : Ones m) : m % 2 = 1 := by
  obtain ⟨k, h1, _, e⟩ := h
  obtain ⟨j, rfl⟩ : ∃ j, k = j + 1 := ⟨k - 1, by omega⟩
  rw [Nat.pow_succ] at e
  omega
theorem Ones.le {m : Nat} (h : Ones m) : m ≤ 8191 := by
  obtain ⟨k, _, h2, e⟩ := h
  have := Nat.pow_le_pow_right (show 0 < 2 by decide) h2.1
  omega

/-! the walk i -> 5 i + 1 meets all -/
/-- the sum of the powers of 5 -/
def geo : Nat → Nat
  | 0 => 0
  | n + 1 => geo n * 5 + 1
theorem geo_pow (n : Nat) : 4 * geo n + 1 = 5 ^ n := by
  induction n with
  | zero => rfl
  | succ n ih => rw [geo, Nat.pow_succ, ← ih]; omega
theorem geo_add (a b : Nat) : geo (a + b) = geo a * 5 ^ b + geo b := by
  induction b with
  | zero => simp [geo]
  | succ b ih =>
    rw [show a + (b + 1) = a + b + 1 by omega, geo, ih, geo, Nat.pow_succ, Nat.add_mul, Nat.mul_assoc]
    omega
/-- the sum of 2 ^ k powers is 2 ^ k times an odd number -/
theorem geo_two (k : Nat) : ∃ c, geo (2 ^ k) = 2 ^ k * (2 * c + 1) := by
  induction k with
  | zero => exact ⟨0, rfl⟩
  | succ k ih =>
    obtain ⟨c, e⟩ := ih
    have h5 : 5 ^ (2 ^ k) = 4 * geo (2 ^ k) + 1 := (geo_pow _).symm
    have h : geo (2 ^ (k + 1)) = geo (2 ^ k) * (2 * (2 * geo (2 ^ k) + 1)) := by
      rw [Nat.pow_succ, Nat.mul_two, geo_add, h5, Nat.mul_add]
      generalize geo (2 ^ k) = g
      generalize hg : g * (4 * g) = u
      have : g * (2 * (2 * g + 1)) = g * (4 * g) + 2 * g := by
        rw [Nat.mul_add 2, Nat.mul_add g, Nat.mul_one, Nat.mul_comm g 2, ← Nat.mul_assoc 2 2 g]
      rw [this, hg]
      omega
    refine ⟨c + (2 * c + 1) * geo (2 ^ k), ?_⟩
    rw [h, Nat.pow_succ]
    generalize geo (2 ^ k) = g at e ⊢
    rw [e]
    generalize 2 ^ k = p
    rw [show 2 * (2 * (p * (2 * c + 1)) + 1) = 2 * (2 * (p * (2 * c + 1)) + 1) from rfl]
    have : p * (2 * c + 1) * (2 * (2 * (p * (2 * c + 1)) + 1)) = p * 2 * ((2 * c + 1) * (2 * (p * (2 * c + 1)) + 1)) := by
      rw [Nat.mul_assoc, Nat.mul_assoc, Nat.mul_left_comm (2 * c + 1) 2]
    rw [this]
    congr 1
    generalize p * (2 * c + 1) = q
    rw [Nat.mul_add, Nat.mul_one, Nat.mul_left_comm]
    omega
theorem geo_mod (m : Nat) (n : Nat) : L2.lcgN m n = geo n % (m + 1) := by
  induction n with
  | zero => simp [L2.lcgN, geo]
  | succ n ih =>
    rw [L2.lcgN, ih, geo, Nat.add_mod, Nat.mul_mod, Nat.mod_mod, ← Nat.mul_mod, ← Nat.add_mod]
/-- each rest comes -/
theorem geo_all (k : Nat) : ∀ j, ∃ n, geo n % 2 ^ k = j % 2 ^ k := by
  induction k with
  | zero => intro j; exact ⟨0, by rw [Nat.pow_zero, Nat.mod_one, Nat.mod_one]⟩
  | succ k ih =>
    intro j
    obtain ⟨n, e⟩ := ih j
    obtain ⟨c, eg⟩ := geo_two k
    have hp : 0 < 2 ^ k := Nat.pow_pos (by decide)
    have h5 : 5 ^ (2 ^ k) = 4 * geo (2 ^ k) + 1 := (geo_pow _).symm
    -- either n or n + 2^k
    have cases2 : geo n % 2 ^ (k + 1) = j % 2 ^ (k + 1) ∨ (geo n + 2 ^ k) % 2 ^ (k + 1) = j % 2 ^ (k + 1) := by
      rw [Nat.pow_succ]
      generalize 2 ^ k = p at hp e
      generalize geo n = g at e
      have d1 := Nat.div_add_mod g p
      have d2 := Nat.div_add_mod j p
      rw [e] at d1
      have hrr : j % p < p := Nat.mod_lt _ hp
      generalize j % p = r at d1 d2 hrr
      generalize hx : g / p = x at d1
      generalize hy : j / p = y at d2
      have f : ∀ z : Nat, (p * z + r) % (p * 2) = p * (z % 2) + r := by
        intro z
        have e4 : p * z + r = p * 2 * (z / 2) + (p * (z % 2) + r) := by
          have := Nat.div_add_mod z 2
          have e5 : p * z = p * (2 * (z / 2) + z % 2) := by rw [this]
          rw [e5, Nat.mul_add, Nat.mul_assoc, Nat.add_assoc]
        rw [e4, Nat.mul_add_mod]
        refine Nat.mod_eq_of_lt ?_
        rcases Nat.mod_two_eq_zero_or_one z with z0 | z0 <;> rw [z0] <;> omega
      rw [← d1, ← d2, f, show p * x + r + p = p * (x + 1) + r by rw [Nat.mul_add, Nat.mul_one]; omega, f, f]
      rcases Nat.mod_two_eq_zero_or_one x with a | a <;> rcases Nat.mod_two_eq_zero_or_one y with b | b
      · left; rw [a, b]
      · right; rw [Nat.add_mod, a, b]
      · right; rw [Nat.add_mod, a, b]
      · left; rw [a, b]
    rcases cases2 with c1 | c1
    · exact ⟨n, c1⟩
    · refine ⟨n + 2 ^ k, ?_⟩
      rw [← c1, geo_add, h5, eg, Nat.pow_succ]
      generalize geo n = g
      generalize 2 ^ k = p
      have : g * (4 * (p * (2 * c + 1)) + 1) + p * (2 * c + 1) = (g + p) + p * 2 * (g * (2 * (2 * c + 1)) + c) := by
        have e1 : g * (4 * (p * (2 * c + 1))) = p * 2 * (g * (2 * (2 * c + 1))) := by
          generalize 2 * c + 1 = d
          rw [show (4 : Nat) = 2 * 2 from rfl, Nat.mul_assoc 2 2, Nat.mul_left_comm 2 p d, Nat.mul_left_comm 2 p (2 * d), Nat.mul_left_comm g p, Nat.mul_assoc p 2, Nat.mul_left_comm 2 g]
        rw [Nat.mul_add g, e1, Nat.mul_add (p * 2), Nat.mul_add p, Nat.mul_one, Nat.mul_one, ← Nat.mul_assoc p 2 c]
        omega
      rw [this, Nat.add_mul_mod_self_left]
theorem ones_all {m : Nat} (hm : Ones m) {j : Nat} (hj : j ≤ m) : ∃ n, L2.lcgN m n = j := by
  obtain ⟨k, _, _, e⟩ := hm
  obtain ⟨n, h⟩ := geo_all k j
  refine ⟨n, ?_⟩
  rw [geo_mod, e, h, ← e]
  exact Nat.mod_eq_of_lt (by omega)
theorem ones_round {m : Nat} (hm : Ones m) (n : Nat) : L2.lcgN m (n + (m + 1)) = L2.lcgN m n := by
  obtain ⟨k, _, _, e⟩ := hm
  obtain ⟨c, eg⟩ := geo_two k
  rw [geo_mod, geo_mod, e, geo_add, ← geo_pow (2 ^ k), eg]
  generalize geo n = g
  generalize 2 ^ k = p
  have : g * (4 * (p * (2 * c + 1)) + 1) + p * (2 * c + 1) = g + p * (g * (4 * (2 * c + 1)) + (2 * c + 1)) := by
    generalize 2 * c + 1 = d
    rw [Nat.mul_add g, Nat.mul_left_comm 4 p d, Nat.mul_left_comm g p, Nat.mul_add p, Nat.mul_one]
    omega
  rw [this, Nat.add_mul_mod_self_left]
theorem ones_rounds {m : Nat} (hm : Ones m) (n : Nat) : ∀ q, L2.lcgN m (n + (m + 1) * q) = L2.lcgN m n
  | 0 => rfl
  | q + 1 => by
    rw [Nat.mul_succ, ← Nat.add_assoc, ones_round hm, ones_rounds hm n q]
/-- from anywhere each place is met within a round -/
theorem ones_meet {m : Nat} (hm : Ones m) {i j : Nat} (hi : i ≤ m) (hj : j ≤ m) : ∃ n, n ≤ m ∧ L2.lcgI m i n = j := by
  obtain ⟨a, ea⟩ := ones_all hm hi
  obtain ⟨b, eb⟩ := ones_all hm hj
  obtain ⟨d, hd, hq⟩ : ∃ d, d ≤ m ∧ ∃ q, a + d = b + (m + 1) * q ∨ a + d + (m + 1) * q = b := by
    have hm1 : 0 < m + 1 := Nat.succ_pos m
    have h1 := Nat.div_add_mod a (m + 1)
    have h2 := Nat.div_add_mod b (m + 1)
    have l1 := Nat.mod_lt a hm1
    have l2 := Nat.mod_lt b hm1
    generalize a % (m + 1) = x at h1 l1
    generalize b % (m + 1) = y at h2 l2
    generalize a / (m + 1) = p at h1
    generalize b / (m + 1) = q at h2
    have fin : ∀ d : Nat, d ≤ m → (∃ t : Nat, x + d = y + (m + 1) * t) → ∃ d, d ≤ m ∧ ∃ q, a + d = b + (m + 1) * q ∨ a + d + (m + 1) * q = b := by
      intro d hd ⟨t, ht⟩
      refine ⟨d, hd, ?_⟩
      rcases Nat.le_total q (p + t) with c | c
      · refine ⟨p + t - q, .inl ?_⟩
        have e1 : (m + 1) * (p + t) = (m + 1) * q + (m + 1) * (p + t - q) := by rw [← Nat.mul_add]; congr 1; omega
        rw [Nat.mul_add] at e1
        omega
      · refine ⟨q - (p + t), .inr ?_⟩
        have e1 : (m + 1) * q = (m + 1) * (p + t) + (m + 1) * (q - (p + t)) := by rw [← Nat.mul_add]; congr 1; omega
        rw [Nat.mul_add (m + 1) p t] at e1
        omega
    rcases Nat.le_total x y with c | c
    · exact fin (y - x) (by omega) ⟨0, by omega⟩
    · rcases Nat.eq_or_lt_of_le c with c | c
      · exact fin 0 (by omega) ⟨0, by omega⟩
      · exact fin (y + (m + 1) - x) (by omega) ⟨1, by omega⟩
  refine ⟨d, hd, ?_⟩
  rw [← ea, L2.lcgN_add]
  obtain ⟨q, h | h⟩ := hq
  · rw [h, ones_rounds hm, eb]
  · rw [← eb, ← h, ones_rounds hm]
/-- each place begins a run early -/
theorem runs_meet {m : Nat} (hm : Ones m) (h : Int) {j : Nat} (hj : j ≤ m) : ∃ n, n < SetTable.turns m ∧ L2.runI m (SetTable.bits h) n = j := by
  obtain ⟨n, hn, e⟩ := ones_meet hm (L2.runI_le m (SetTable.bits h) 12) hj
  exact ⟨12 + n, by unfold SetTable.turns; omega, by rw [L2.runI_tail (L2.bits_lt h)]; exact e⟩
theorem way_in {m : Nat} {h : Int} {k : Nat} : L2.way m h k ≤ m := by
  have hi : SetTable.bits h % (m + 1) ≤ m := Nat.le_of_lt_succ (Nat.mod_lt _ (Nat.succ_pos _))
  have r := L2.runEnd_bd hi
  have q := L2.nth_in (m := m) k (L2.runAt m (SetTable.bits h % (m + 1)) (SetTable.bits h)) (by
    show SetTable.bits h % (m + 1) + (SetTable.runEnd m _ - SetTable.bits h % (m + 1)) ≤ m
    omega)
  exact Nat.le_trans (Nat.le_add_right _ _) q
theorem way_meets {m : Nat} (hm : Ones m) (h : Int) {j : Nat} (hj : j ≤ m) : ∃ k, k < 10 * SetTable.turns m ∧ L2.way m h k = j := by
  obtain ⟨n, hn, e⟩ := runs_meet hm h hj
  obtain ⟨k, hk, e2⟩ := L2.run_nth m (SetTable.bits h) n
  exact ⟨k, by omega, (congrArg SetTable.Probe.j e2).trans e⟩

/-- a table in which each of these hashes is found again -/
structure Tab (t : SetTable) (hs : List Int) : Prop where
  ris : L2.Ris t.place.toList
  dm : t.dummies = #[]
  sz : t.place.size = hs.length
  one : Ones t.mask
  le : ∀ j ∈ t.place.toList, j ≤ t.mask
  way : ∀ (i : Nat) (h : Int) (j : Nat), hs[i]? = some h → t.place.toList[i]? = some j → ∃ k, L2.way t.mask h k = j ∧ ∀ k', k' < k → L2.way t.mask h k' ∈ t.place.toList
theorem Tab.len {t : SetTable} {hs : List Int} (T : Tab t hs) : t.place.toList.length = hs.length := by rw [Array.length_toList]; exact T.sz
/-- the first free place on the way -/
theorem Tab.free {t : SetTable} {hs : List Int} (T : Tab t hs) (hl : hs.length ≤ t.mask) (h : Int) :
    ∃ n, n < 10 * SetTable.turns t.mask ∧ L2.way t.mask h n ∉ t.place.toList ∧ ∀ k, k < n → L2.way t.mask h k ∈ t.place.toList := by
  obtain ⟨j, hj, hn⟩ := L2.st_missing t.place.toList (t.mask + 1) (by rw [T.len]; omega)
  obtain ⟨k, hk, e⟩ := way_meets T.one h (Nat.le_of_lt_succ hj)
  obtain ⟨n, n1, n2, n3⟩ := L2.st_least (p := fun k => L2.way t.mask h k ∉ t.place.toList) k (by rw [show L2.way t.mask h k = j from e]; exact hn)
  exact ⟨n, by omega, n2, fun k' hk' => Classical.byContradiction fun c => n3 k' hk' c⟩
/-- what has the hash stands before it -/
theorem Tab.pre {t : SetTable} {hs : List Int} (T : Tab t hs) {h : Int} {n i j : Nat} (hn : L2.way t.mask h n ∉ t.place.toList) (hi : hs[i]? = some h) (hj : t.place.toList[i]? = some j) : ∃ k, k < n ∧ L2.way t.mask h k = j := by
  obtain ⟨k, e, hb⟩ := T.way i h j hi hj
  have h1 : k ≠ n := fun z => hn (by rw [← z, e]; exact List.mem_of_getElem? hj)
  have h2 : ¬ n < k := fun z => hn (hb n z)
  exact ⟨k, by omega, e⟩
/-- one more, at the first free place -/
theorem Tab.put {t : SetTable} {hs : List Int} (T : Tab t hs) {h : Int} {n : Nat} (hn : L2.way t.mask h n ∉ t.place.toList) (hb : ∀ k, k < n → L2.way t.mask h k ∈ t.place.toList) {p : Nat} (hp : SetTable.below t.place (L2.way t.mask h n) = p) :
    (t.put (L2.way t.mask h n)).2 = p ∧ p ≤ hs.length ∧ Tab (t.put (L2.way t.mask h n)).1 (hs.take p ++ h :: hs.drop p) ∧ (t.put (L2.way t.mask h n)).1.mask = t.mask ∧ (t.put (L2.way t.mask h n)).1.led = t.led ∧
    (t.put (L2.way t.mask h n)).1.plain = t.plain ∧ (t.put (L2.way t.mask h n)).1.place.size = hs.length + 1 := by
  have hin : L2.way t.mask h n ≤ t.mask := way_in
  generalize hj : L2.way t.mask h n = j at hn hp hin
  obtain ⟨c1, _, _⟩ := L2.below_cut T.ris j
  have hph : p ≤ hs.length := by rw [← hp, ← T.sz]; exact c1
  have hpl : p ≤ t.place.toList.length := by rw [T.len]; exact hph
  have free : t.place[SetTable.below t.place j]? ≠ some j := fun z => hn (List.mem_of_getElem? (by rw [Array.getElem?_toList]; exact z))
  have new : (t.put j).1.place.toList = t.place.toList.take p ++ j :: t.place.toList.drop p := by rw [← hp]; exact L2.put_place t j
  have up : ∀ {x : Nat}, x ∈ t.place.toList → x ∈ (t.put j).1.place.toList := fun {x} hx => by rw [new]; exact L2.mem_ins.2 (.inr hx)
  have len : (t.put j).1.place.size = hs.length + 1 := by rw [← Array.length_toList, new, L2.len_ins _ hpl, T.len]
  refine ⟨hp, hph, ⟨L2.ris_insert T.ris free, L2.put_dm T.dm j, by rw [len, L2.len_ins _ hph], T.one, fun x hx => ?_, fun i h' j' h1 h2 => ?_⟩, rfl, rfl, rfl, len⟩
  · rw [new] at hx
    rcases L2.mem_ins.1 hx with z | z
    · rw [z]; exact hin
    · exact T.le x z
  · rw [L2.tins_get hs hph] at h1
    rw [new, L2.tins_get _ hpl] at h2
    have old : ∀ i, hs[i]? = some h' → t.place.toList[i]? = some j' → ∃ k, L2.way t.mask h' k = j' ∧ ∀ k', k' < k → L2.way t.mask h' k' ∈ (t.put j).1.place.toList := fun i a b =>
      let ⟨k, e, z⟩ := T.way i h' j' a b
      ⟨k, e, fun k' hk' => up (z k' hk')⟩
    show ∃ k, L2.way t.mask h' k = j' ∧ ∀ k', k' < k → L2.way t.mask h' k' ∈ (t.put j).1.place.toList
    split at h1
    · rename_i c
      rw [if_pos c] at h2
      exact old i h1 h2
    · rename_i c
      rw [if_neg c] at h2
      split at h1
      · rename_i d
        rw [if_pos d] at h2
        cases h1
        cases h2
        exact ⟨n, hj, fun k' hk' => up (hb k' hk')⟩
      · rename_i d
        rw [if_neg d] at h2
        exact old (i - 1) h1 h2

/-! all laid anew -/
theorem lay_free {m : Nat} (hm : Ones m) (owner : Array (Option Nat)) (h : Int) {j : Nat} (hj : j ≤ m) (hf : L2.oAt owner j = none) :
    ∃ n, SetTable.layClean.free m owner (SetTable.turns m) (SetTable.bits h % (m + 1)) (SetTable.bits h) = some (L2.way m h n) ∧ L2.oAt owner (L2.way m h n) = none ∧ ∀ k, k < n → L2.oAt owner (L2.way m h k) ≠ none := by
  obtain ⟨r, hr, e⟩ := runs_meet hm h hj
  have hw : L2.way m h (L2.off m (SetTable.bits h % (m + 1)) (SetTable.bits h) r) = j := by
    show (L2.nth m (L2.runAt m _ _) _).j = j
    rw [L2.nth_off, L2.itL_run]
    exact e
  obtain ⟨n, n1, n2, n3⟩ := L2.st_least (p := fun k => L2.oAt owner (L2.way m h k) = none) _ (by rw [hw]; exact hf)
  refine ⟨n, L2.free_spec m owner (SetTable.turns m) r _ _ n hr n1 (fun k hk => ?_) ?_, n2, n3⟩
  · have q := n3 k hk
    show (L2.oAt owner (L2.way m h k)).isNone = false
    cases z : L2.oAt owner (L2.way m h k) with
    | none => exact absurd z q
    | some _ => rfl
  · show (L2.oAt owner (L2.way m h n)).isNone = true
    rw [n2]
    rfl
theorem lay_step {m : Nat} (hm : Ones m) {done : List Int} {owner : Array (Option Nat)} (W : L2.Own m done owner) (hl : done.length ≤ m) (h : Int) :
    ∃ j, SetTable.layClean.free m owner (SetTable.turns m) (SetTable.bits h % (m + 1)) (SetTable.bits h) = some j ∧ L2.Own m (done ++ [h]) (owner.setIfInBounds j (some done.length)) := by
  obtain ⟨ps, hps, hin⟩ := W.ps
  obtain ⟨j0, h0, hn0⟩ := L2.st_missing ps (m + 1) (by omega)
  have hj0 : L2.oAt owner j0 = none := Classical.byContradiction fun z => hn0 (hin j0 (by omega) z)
  obtain ⟨n, e1, e2, e3⟩ := lay_free hm owner h (Nat.le_of_lt_succ h0) hj0
  have hjm : L2.way m h n ≤ m := way_in
  have hjs : L2.way m h n < owner.size := by rw [W.sz]; omega
  generalize hw : L2.way m h n = j at e1 e2 hjm hjs
  have self := L2.oAt_set_self (some done.length) hjs
  have up : ∀ {i : Nat}, L2.oAt owner i ≠ none → L2.oAt (owner.setIfInBounds j (some done.length)) i ≠ none := fun {i} hi => by
    by_cases c : i = j
    · rw [c, self]; exact Option.some_ne_none _
    · rw [L2.oAt_set_ne _ c]; exact hi
  refine ⟨j, e1, ⟨by rw [Array.size_setIfInBounds]; exact W.sz, fun i k hi e => ?_, fun k hk => ?_, j :: ps, by rw [List.length_cons, List.length_append, hps]; rfl, fun i hi e => ?_⟩⟩
  · by_cases c : i = j
    · subst c
      rw [self] at e
      cases e
      exact ⟨h, n, by simp, hw, fun k' hk' => up (e3 k' hk')⟩
    · rw [L2.oAt_set_ne _ c] at e
      obtain ⟨h', n', a1, a2, a3⟩ := W.at_ i k hi e
      exact ⟨h', n', by rw [List.getElem?_append_left (List.getElem?_eq_some_iff.mp a1).1]; exact a1, a2, fun k' hk' => up (a3 k' hk')⟩
  · rcases Nat.lt_or_ge k done.length with c | c
    · obtain ⟨i, hi, e⟩ := W.all k c
      exact ⟨i, hi, by rw [L2.oAt_set_ne _ (fun z => by rw [z, e2] at e; cases e)]; exact e⟩
    · rw [List.length_append, List.length_singleton] at hk
      have ek : k = done.length := by omega
      exact ⟨j, hjm, by rw [ek]; exact self⟩
  · by_cases c : i = j
    · rw [c]; exact List.mem_cons_self
    · rw [L2.oAt_set_ne _ c] at e
      exact List.mem_cons_of_mem _ (hin i hi e)
theorem lay_all {m : Nat} (hm : Ones m) : ∀ (rest done : List Int) (owner : Array (Option Nat)), L2.Own m done owner → done.length + rest.length ≤ m →
    ∃ owner', rest.foldl (L2.stepF m) (some (owner, done.length)) = some (owner', (done ++ rest).length) ∧ L2.Own m (done ++ rest) owner'
  | [], done, owner, W, _ => ⟨owner, by simp, by simpa using W⟩
  | h :: rest, done, owner, W, hl => by
    rw [List.length_cons] at hl
    obtain ⟨j, e, W'⟩ := lay_step hm W (by omega) h
    have hz : (done ++ [h]).length = done.length + 1 := by simp
    obtain ⟨owner', f, W2⟩ := lay_all hm rest (done ++ [h]) _ W' (by omega)
    have ea : done ++ [h] ++ rest = done ++ h :: rest := by simp
    rw [ea] at f W2
    rw [hz] at f
    exact ⟨owner', by rw [List.foldl_cons, L2.stepF_some e]; exact f, W2⟩
theorem lay_clean {m : Nat} (hm : Ones m) {hs : Array Int} (hn : hs.size ≤ m) : ∃ owner, SetTable.layClean m hs = some owner ∧ L2.Own m hs.toList owner := by
  obtain ⟨owner, f, W⟩ := lay_all hm hs.toList [] _ (L2.Own.init m) (by simpa using hn)
  rw [List.nil_append] at f W
  have f' : hs.toList.foldl (L2.stepF m) (some (Array.replicate (m + 1) none, 0)) = some (owner, hs.toList.length) := f
  exact ⟨owner, by rw [L2.layClean_eq, f']; rfl, W⟩
theorem relay_tab (t : SetTable) {hs : Array Int} {wanted m : Nat} (hw : SetTable.sizeAbove wanted - 1 = m) (hm : Ones m) (hn : hs.size ≤ m) :
    ∃ t' order, t.relaid hs wanted = some (t', order) ∧ order.toList.Perm (List.range hs.size) ∧ Tab t' (order.toList.map fun i => hs.getD i 0) ∧ t'.mask = m ∧ t'.led = t.led ∧ t'.plain = t.plain := by
  obtain ⟨owner, e, W⟩ := lay_clean hm hn
  have ris := L2.ris_live (fun j => owner.getD j none) (List.range (m + 1)) List.pairwise_lt_range
  have r1 : L2.Ris ((L2.liveOf m owner).map (·.1)) := ris.1
  have r2 : ∀ x ∈ (L2.liveOf m owner).map (·.1), x ∈ List.range (m + 1) := ris.2
  have nd : ((L2.liveOf m owner).map (·.1)).Nodup := r1.imp Nat.ne_of_lt
  have hz : hs.toList.length = hs.size := rfl
  have hlen : (L2.liveOf m owner).length = hs.size := by
    obtain ⟨ps, p1, p2⟩ := W.ps
    have a := L2.nat_nodup_len ((L2.liveOf m owner).map (·.1)) ps nd fun x hx => by
      obtain ⟨⟨y, k⟩, hq, rfl⟩ := List.mem_map.mp hx
      obtain ⟨b1, b2⟩ := (L2.mem_live W.sz).1 hq
      exact p2 y b1 (by rw [b2]; exact Option.some_ne_none _)
    have b := L2.nat_nodup_len (List.range hs.size) ((L2.liveOf m owner).map (·.2)) List.nodup_range fun k hk => by
      obtain ⟨j, b1, b2⟩ := W.all k (by rw [hz]; exact List.mem_range.mp hk)
      exact List.mem_map.mpr ⟨(j, k), (L2.mem_live W.sz).2 ⟨b1, b2⟩, rfl⟩
    rw [List.length_map, p1] at a
    rw [List.length_map, List.length_range] at b
    omega
  refine ⟨L2.tabOf t m owner, ((L2.liveOf m owner).map (·.2)).toArray, by rw [L2.relaid_eq, hw, e]; rfl, ?_, ⟨r1, rfl, ?_, hm, fun x hx => ?_, fun i h j h1 h2 => ?_⟩, rfl, rfl, rfl⟩
  · refine L2.perm_range hs.size _ (by simpa using hlen) fun k hk => ?_
    obtain ⟨j, b1, b2⟩ := W.all k (by rw [hz]; exact hk)
    exact List.mem_map.mpr ⟨(j, k), (L2.mem_live W.sz).2 ⟨b1, b2⟩, rfl⟩
  · simp [L2.tabOf]
  · exact Nat.le_of_lt_succ (List.mem_range.mp (r2 x hx))
  · have h1' : (((L2.liveOf m owner).map (·.2)).map fun i => hs.getD i 0)[i]? = some h := h1
    have h2' : ((L2.liveOf m owner).map (·.1))[i]? = some j := h2
    rw [List.getElem?_map, List.getElem?_map] at h1'
    rw [List.getElem?_map] at h2'
    cases hq : (L2.liveOf m owner)[i]? with
    | none => rw [hq] at h2'; cases h2'
    | some q =>
      obtain ⟨y, k⟩ := q
      rw [hq] at h1' h2'
      cases h2'
      obtain ⟨b1, b2⟩ := (L2.mem_live W.sz).1 (List.mem_of_getElem? hq)
      obtain ⟨h0, n, a1, a2, a3⟩ := W.at_ _ _ b1 b2
      have e0 : hs.getD k 0 = h0 := by rw [Array.getD_eq_getD_getElem?, ← Array.getElem?_toList, a1]; rfl
      have eh : hs.getD k 0 = h := Option.some.inj h1'
      obtain rfl : h0 = h := e0.symm.trans eh
      refine ⟨n, a2, fun k' hk' => ?_⟩
      show L2.way m h0 k' ∈ (L2.liveOf m owner).map (·.1)
      cases z : L2.oAt owner (L2.way m h0 k') with
      | none => exact absurd z (a3 k' hk')
      | some k2 => exact List.mem_map.mpr ⟨(L2.way m h0 k', k2), (L2.mem_live W.sz).2 ⟨way_in, z⟩, rfl⟩
end MV
end

section
set_option maxHeartbeats 4000000
/-! sets of nested tuples: searching, adding -/
namespace MV
open PySem PySem.Spec PyProof.Rows L2

/-- the tuple at a is the key k -/
def IsN (h : Heap) (k : NestedKey) (a : Addr) : Prop := NestedIs h k (.ref a) ∧ k.depth ≤ 8
section
variable {P : Program} {w : World} {A : Around} {E : Value → Shared → Prop} {s : Shared}
mutual
theorem noClass : ∀ (k : NestedKey) (v : Value) (n : Nat), NestedIs s.heap k v → k.depth ≤ n → ∀ (E : Value → Shared → Prop) (Q : Bool → Shared → Prop), Q false s → wpAny (model P w) A (ofAClassStatement n v) Q E s
  | .none, v, n, x, _, E, Q, q => by cases x; cases n <;> exact wpAny_pure q
  | .num i, v, n, x, _, E, Q, q => by cases x <;> cases n <;> exact wpAny_pure q
  | .text z, v, n, x, _, E, Q, q => by cases x; cases n <;> exact wpAny_pure q
  | .tup ks, v, n, x, hn, E, Q, q => by
    cases x with
    | @tup a o vs m _ ho hc hd hk =>
      simp only [NestedKey.depth] at hn
      obtain ⟨n, rfl⟩ : ∃ j, n = j + 1 := ⟨n - 1, by omega⟩
      have items := noClasses ks vs.toList n hk (by omega)
      have hT : s.TypeIs (.ref a) "tuple" := ⟨o, ho, hc⟩
      unfold ofAClassStatement
      refine wpAny_bind (wpAny_typeOf hT ?_)
      dsimp only
      simp only [show (("tuple" : String) == "tuple") = true by decide, if_true, Bool.not_true, Bool.false_eq_true, if_false]
      try refine wpAny_bind (wpAny_pure ?_)
      try simp only [Bool.not_true, Bool.false_eq_true, if_false]
      show wpAny _ _ (seqItems? (.ref a) >>= _) _ _ s
      refine wpAny_bind (wpAny_seqItems ho hd ?_)
      dsimp only
      refine wpAny_bind ?_
      show wpAny _ _ (forIn vs _ _) _ _ s
      rw [← Array.forIn_toList]
      refine wpAny_forIn_list _ (fun rest r s' => r.1 = none ∧ s' = s ∧ ∀ v ∈ rest, v ∈ vs.toList) _ ?_ ?_ _ _ ⟨rfl, rfl, fun _ z => z⟩
      · rintro v rest r s' ⟨hr, rfl, hall⟩
        refine wpAny_bind (items v (hall v List.mem_cons_self) _ _ ?_)
        simp only [Bool.false_eq_true, if_false]
        exact wpAny_pure ⟨rfl, rfl, fun u hu => hall u (List.mem_cons_of_mem _ hu)⟩
      · rintro ⟨r1, r2⟩ s' ⟨hr, rfl, _⟩
        simp only at hr
        subst hr
        exact wpAny_pure q
theorem noClasses : ∀ (ks : List NestedKey) (vs : List Value) (n : Nat), NestedAll s.heap ks vs → NestedKey.depthAll ks ≤ n → ∀ v ∈ vs, ∀ (E : Value → Shared → Prop) (Q : Bool → Shared → Prop), Q false s → wpAny (model P w) A (ofAClassStatement n v) Q E s
  | [], _, n, x, _, v, hv, E, Q, q => by cases x; cases hv
  | k :: ks, _, n, x, hn, v, hv, E, Q, q => by
    cases x with
    | cons x1 x2 =>
      simp only [NestedKey.depthAll] at hn
      rcases List.mem_cons.mp hv with e | hv
      · rw [e]; exact noClass k _ n x1 (by omega) E Q q
      · exact noClasses ks _ n x2 (by omega) v hv E Q q
end
mutual
theorem byValue_key : ∀ (k : NestedKey) (v : Value) (n : Nat), NestedIs s.heap k v → ∀ (E : Value → Shared → Prop) (Q : Bool → Shared → Prop), (∀ b, Q b s) → wpAny (model P w) A (hashByValue n v) Q E s
  | .none, v, n, x, E, Q, q => by cases x; cases n <;> exact wpAny_pure (q _)
  | .num i, v, n, x, E, Q, q => by cases x <;> cases n <;> exact wpAny_pure (q _)
  | .text z, v, n, x, E, Q, q => by cases x; cases n <;> exact wpAny_pure (q _)
  | .tup ks, v, n, x, E, Q, q => by
    cases x with
    | @tup a o vs m _ ho hc hd hk =>
      cases n with
      | zero => exact wpAny_pure (q _)
      | succ n =>
        have items := byValue_keys ks vs.toList n hk
        have hT : s.TypeIs (.ref a) "tuple" := ⟨o, ho, hc⟩
        unfold hashByValue
        refine wpAny_bind (wpAny_specialOf hT F.slot_tuple_hash.lookup ?_)
        show wpAny _ _ (seqItems? (.ref a) >>= _) _ _ s
        refine wpAny_bind (wpAny_seqItems ho hd ?_)
        refine wpAny_bind ?_
        show wpAny _ _ (forIn vs _ _) _ _ s
        rw [← Array.forIn_toList]
        refine wpAny_forIn_list _ (fun rest r s' => s' = s ∧ ∀ v ∈ rest, v ∈ vs.toList) _ ?_ ?_ _ _ ⟨rfl, fun _ z => z⟩
        · rintro v rest r s' ⟨rfl, hall⟩
          refine wpAny_bind (items v (hall v List.mem_cons_self) _ _ fun b => ?_)
          cases b
          · simp only [Bool.not_false, if_true]
            exact wpAny_pure (wpAny_pure (q _))
          · simp only [Bool.not_true, Bool.false_eq_true, if_false]
            exact wpAny_pure ⟨rfl, fun u hu => hall u (List.mem_cons_of_mem _ hu)⟩
        · rintro ⟨r1, r2⟩ s' ⟨rfl, _⟩
          cases r1 with
          | none => exact wpAny_pure (q _)
          | some b => exact wpAny_pure (q _)
theorem byValue_keys : ∀ (ks : List NestedKey) (vs : List Value) (n : Nat), NestedAll s.heap ks vs → ∀ v ∈ vs, ∀ (E : Value → Shared → Prop) (Q : Bool → Shared → Prop), (∀ b, Q b s) → wpAny (model P w) A (hashByValue n v) Q E s
  | [], _, n, x, v, hv, E, Q, q => by cases x; cases hv
  | k :: ks, _, n, x, v, hv, E, Q, q => by
    cases x with
    | cons x1 x2 =>
      rcases List.mem_cons.mp hv with e | hv
      · rw [e]; exact byValue_key k _ n x1 E Q q
      · exact byValue_keys ks _ n x2 v hv E Q q
end
/-- a search among tuples shows nothing -/
theorem noneSeen {k : NestedKey} {b : Addr} {Q : Bool → Shared → Prop} (hk : IsN s.heap k b) {ys : List Value} (hy : ∀ y ∈ ys, ∃ k' c, y = Value.ref c ∧ IsN s.heap k' c) (q : Q false s) : wpAny (model P w) A (searchCouldBeSeen (.ref b) ys) Q E s := by
  unfold searchCouldBeSeen
  refine wpAny_bind ?_
  refine wpAny_forIn_list _ (fun rest r s' => r.1 = none ∧ s' = s ∧ ∀ y ∈ rest, ∃ k' c, y = Value.ref c ∧ IsN s.heap k' c) _ ?_ ?_ _ _ ⟨rfl, rfl, hy⟩
  · rintro v rest r s' ⟨hr, rfl, hall⟩
    obtain ⟨k', c, rfl, hc⟩ := hall v List.mem_cons_self
    have later := fun u (hu : u ∈ rest) => hall u (List.mem_cons_of_mem _ hu)
    dsimp only
    by_cases hv : (b == c || (carriedByValue (.ref b) && carriedByValue (.ref c))) = true
    · exact wp_if_pos hv (wpAny_pure ⟨rfl, rfl, later⟩)
    · refine wp_if_neg hv ?_
      refine wpAny_bind (quiet_key k _ 8 _ hk.1 hk.2 _ _ _ ?_)
      simp only [Bool.not_true, Bool.false_eq_true, if_false]
      refine wpAny_bind (quiet_key k' _ 8 _ hc.1 hc.2 _ _ _ ?_)
      simp only [Bool.not_true, Bool.false_eq_true, if_false]
      refine wpAny_bind (noClass k _ 8 hk.1 hk.2 _ _ ?_)
      simp only [Bool.false_eq_true, if_false]
      refine wpAny_bind (noClass k' _ 8 hc.1 hc.2 _ _ ?_)
      simp only [Bool.false_eq_true, if_false]
      exact wpAny_pure ⟨rfl, rfl, later⟩
  · rintro ⟨r1, r2⟩ s' ⟨hr, rfl, _⟩
    simp only at hr
    subst hr
    exact wpAny_pure q

/-! the set -/
def rowsN (w : World) (L : List (Addr × NestedKey)) : List (Int × Value) := L.map fun p => (p.2.hash w, Value.ref p.1)
def hashesN (w : World) (L : List (Addr × NestedKey)) : List Int := L.map fun p => p.2.hash w
theorem rowsN_length {w : World} {L : List (Addr × NestedKey)} {es : Array (Int × Value)} (e : es.toList = rowsN w L) : es.size = L.length := by
  have h := congrArg List.length e
  rwa [Array.length_toList, rowsN, List.length_map] at h
structure SetN (w : World) (h : Heap) (a : Addr) (L : List (Addr × NestedKey)) (es : Array (Int × Value)) (ep : Nat) (t : SetTable) : Prop where
  ob : ∃ o, h.get? a = some o ∧ o.ExactSet ∧ o.data = .set es ep t
  rows : es.toList = rowsN w L
  tab : Tab t (hashesN w L)
  nd : (L.map (·.2)).Nodup
  tup : ∀ p ∈ L, IsN h p.2 p.1
  led : w.params.followText "set-order" = true ∨ t.led = true
  room : L.length * 5 < t.mask * 3
theorem fits_of {t : SetTable} {n m : Nat} {hs : List Int} (T : Tab t hs) (hn : hs.length = n) (hm : n ≤ t.mask) : t.fits n = true := by
  unfold SetTable.fits SetTable.fill
  rw [T.dm, Bool.and_eq_true, beq_iff_eq, decide_eq_true_eq, T.sz, hn]
  exact ⟨rfl, hm⟩
variable {a : Addr} {L : List (Addr × NestedKey)} {es : Array (Int × Value)} {ep : Nat} {t : SetTable}
theorem SetN.size (R : SetN w s.heap a L es ep t) : es.size = L.length := rowsN_length R.rows
theorem SetN.len (R : SetN w s.heap a L es ep t) : L.length ≤ t.mask := by have := R.room; omega
theorem SetN.fits (R : SetN w s.heap a L es ep t) : t.fits es.size = true := fits_of (m := 0) R.tab (by rw [hashesN, List.length_map, R.size]) (by rw [R.size]; exact R.len)
theorem SetN.entry (R : SetN w s.heap a L es ep t) {i : Nat} {p : Addr × NestedKey} (h : L[i]? = some p) : es[i]? = some (p.2.hash w, Value.ref p.1) := by
  rw [← Array.getElem?_toList, R.rows, rowsN, List.getElem?_map, h]
  rfl

/-- the probe at the c-th step -/
abbrev prN (m : Nat) (h : Int) (c : Nat) : SetTable.Probe := L2.nth m (L2.runAt m (SetTable.bits h % (m + 1)) (SetTable.bits h)) c
theorem prN_dummy (m : Nat) : ∀ (n : Nat) (p : SetTable.Probe), p.dummy = none → (L2.nth m p n).dummy = none
  | 0, _, h => h
  | n + 1, p, h => prN_dummy m n _ (by unfold L2.adv; split <;> exact h)
theorem prN_add (m : Nat) (h : Int) (c q : Nat) : L2.nth m (prN m h c) q = prN m h (c + q) := (L2.nth_add m c _ q).symm
/-- the search from the c-th step on -/
theorem find_from (R : SetN w s.heap a L es ep t) {x : Addr} {k : NestedKey} (hx : IsN s.heap k x) (hu : A.units + 8 < cLine) {n : Nat} (hnf : n < 10 * SetTable.turns t.mask)
    (hn : L2.way t.mask (k.hash w) n ∉ t.place.toList) (hb : ∀ c, c < n → L2.way t.mask (k.hash w) c ∈ t.place.toList) {Q : SetFound → Shared → Prop}
    (hin : k ∈ L.map (·.2) → Q (.there none) s) (hout : k ∉ L.map (·.2) → Q (.free (L2.way t.mask (k.hash w) n) false) s) :
    ∀ (f c : Nat) (stand : Option SetTable.Probe), stand.getD (t.probeStart (k.hash w)) = prN t.mask (k.hash w) c → c ≤ n → n - c < f →
      (∀ (i : Nat) p, L[i]? = some p → p.2 = k → ∃ c', c ≤ c' ∧ c' < n ∧ t.place.toList[i]? = some (L2.way t.mask (k.hash w) c')) →
      wpAny (model P w) A (setSearchFrom a (.ref x) (k.hash w) true f stand) Q E s
  | 0, c, stand, _, _, hf, _ => absurd hf (Nat.not_lt_zero _)
  | f + 1, c, stand, hst, hc, hf, hre => by
    obtain ⟨o, ho, hex, hd⟩ := R.ob
    rw [L2.setSearchFrom_succ]
    refine wpAny_bind (wpAny_setState_of ho hd R.fits ?_)
    dsimp only
    refine wp_if_neg (by unfold SetTable.gaveWay; rw [R.tab.one.odd]; decide) ?_
    try refine wpAny_bind (wpAny_pure ?_)
    have wy : ∀ q, (L2.nth t.mask (prN t.mask (k.hash w) c) q).j = L2.way t.mask (k.hash w) (c + q) := fun q => congrArg SetTable.Probe.j (prN_add t.mask (k.hash w) c q)
    have hashAt : ∀ (i : Nat) p, L[i]? = some p → (es[i]?.map (·.1)).getD 0 = p.2.hash w := fun i p hp => by rw [R.entry hp]; rfl
    have spec := L2.go_spec t R.tab.ris R.tab.dm (fun i => (es[i]?.map (·.1)).getD 0) (k.hash w) (10 * SetTable.turns t.mask) (n - c) (prN t.mask (k.hash w) c) (prN_dummy _ _ _ rfl) (by omega)
      (fun q hq => by rw [wy]; exact hb (c + q) (by omega)) (by rw [wy, show c + (n - c) = n by omega]; exact hn)
    have probe : ∀ {m : SetTable.Met}, SetTable.probe.go t (fun i => (es[i]?.map (·.1)).getD 0) (k.hash w) (10 * SetTable.turns t.mask) (prN t.mask (k.hash w) c) = some m →
        t.probe (fun i => (es[i]?.map (·.1)).getD 0) (k.hash w) (stand.getD (t.probeStart (k.hash w))) = some m := fun {m} e => by rw [hst]; exact e
    rcases spec with ⟨q, i, hq, hi, hh, hno, hpr⟩ | ⟨hno, hpr⟩
    · rw [probe hpr]
      dsimp only
      rw [wy] at hi
      have hil : i < L.length := by
        have h1 := (List.getElem?_eq_some_iff.mp hi).1
        rwa [R.tab.len, hashesN, List.length_map] at h1
      obtain ⟨p, hp⟩ : ∃ p, L[i]? = some p := ⟨_, List.getElem?_eq_getElem hil⟩
      have hmem : p ∈ L := List.mem_of_getElem? hp
      have go : wpAny (model P w) A (L2.searchRest a (.ref x) (k.hash w) true f es t (L2.nth t.mask (prN t.mask (k.hash w) c) q).j i (L2.nth t.mask (prN t.mask (k.hash w) c) (q + 1))) Q E s := by
        rw [wy, prN_add]
        unfold L2.searchRest
        rw [R.entry hp]
        dsimp only
        refine wpAny_bind (wpAny_holding ((nestedKind P w).eqBool hu (R.tup p hmem) hx ?_))
        refine wpAny_bind (wpAny_setState_of ho hd R.fits ?_)
        dsimp only
        by_cases hkk : p.2 = k
        · exact wp_if_pos (by simp [hkk]) (wpAny_pure (hin (List.mem_map.mpr ⟨p, hmem, hkk⟩)))
        · refine wp_if_neg (by simp [hkk]) ?_
          try refine wpAny_bind (wpAny_pure ?_)
          rw [L2.sameMem]
          dsimp only
          have hsl : t.slot (L2.way t.mask (k.hash w) (c + q)) = .live i := L2.slot_live R.tab.ris hi
          simp only [if_true, hsl, R.entry hp]
          refine wpAny_bind (wpAny_isSame_ref_self (wpAny_bind (wpAny_pure ?_)))
          simp only [if_true]
          refine wp_if_neg (by simp [hkk]) ?_
          refine find_from R hx hu hnf hn hb hin hout f (c + (q + 1)) _ rfl (by omega) (by omega) fun i0 p0 h0 hk0 => ?_
          obtain ⟨c', a1, a2, a3⟩ := hre i0 p0 h0 hk0
          refine ⟨c', Classical.byContradiction fun z => ?_, a2, a3⟩
          rcases Nat.lt_or_ge c' (c + q) with y | y
          · exact hno (c' - c) i0 (by omega) (by rw [wy, show c + (c' - c) = c' by omega]; exact a3) ((hashAt i0 p0 h0).trans (by rw [hk0]))
          · obtain rfl : c' = c + q := by omega
            have s0 := L2.slot_live R.tab.ris a3
            rw [hsl] at s0
            injection s0 with s0
            rw [← s0, hp] at h0
            cases h0
            exact hkk hk0
      by_cases hl : t.led = true
      · refine wp_if_neg (by simp [hl]) ?_
        try refine wpAny_bind (wpAny_pure ?_)
        exact go
      · refine wp_if_pos (by simp [hl]) ?_
        refine wpAny_bind (noneSeen hx (fun y hy => ?_) ?_)
        · obtain ⟨e, he, ee⟩ := List.mem_map.mp hy
          have he1 : e ∈ es ∧ e.1 = k.hash w := by simpa using he
          have he2 : e ∈ es.toList := by simpa using he1.1
          rw [R.rows] at he2
          obtain ⟨p2, hp2, e2⟩ := List.mem_map.mp he2
          exact ⟨p2.2, p2.1, by rw [← ee, ← e2], R.tup p2 hp2⟩
        · refine wp_if_neg (by decide) ?_
          try refine wpAny_bind (wpAny_pure ?_)
          exact go
    · rw [probe hpr]
      dsimp only
      rw [wy, show c + (n - c) = n by omega]
      refine wpAny_pure (hout fun hm => ?_)
      obtain ⟨p0, h0, hk0⟩ := List.mem_map.mp hm
      obtain ⟨i0, hi0, e0⟩ := List.getElem_of_mem h0
      have h00 : L[i0]? = some p0 := by rw [List.getElem?_eq_getElem hi0, e0]
      obtain ⟨c', a1, a2, a3⟩ := hre i0 p0 h00 hk0
      exact hno (c' - c) i0 (by omega) (by rw [wy, show c + (c' - c) = c' by omega]; exact a3) ((hashAt i0 p0 h00).trans (by rw [hk0]))
theorem find_at (R : SetN w s.heap a L es ep t) {x : Addr} {k : NestedKey} (hx : IsN s.heap k x) (hu : A.units + 8 < cLine) {Q : SetFound → Shared → Prop} (hin : k ∈ L.map (·.2) → Q (.there none) s)
    (hout : ∀ n, k ∉ L.map (·.2) → L2.way t.mask (k.hash w) n ∉ t.place.toList → (∀ c, c < n → L2.way t.mask (k.hash w) c ∈ t.place.toList) → Q (.free (L2.way t.mask (k.hash w) n) false) s) :
    wpAny (model P w) A (setSearch a (.ref x) (k.hash w) true) Q E s := by
  obtain ⟨n, hnf, hn, hb⟩ := R.tab.free (by rw [hashesN, List.length_map]; exact R.len) (k.hash w)
  have big : n < 100000 := by
    have := R.tab.one.le
    unfold SetTable.turns at hnf
    omega
  unfold setSearch
  refine find_from R hx hu hnf hn hb hin (fun z => hout n z hn hb) 100000 0 none rfl (Nat.zero_le _) (by omega) fun i p hp hk => ?_
  have hi : (hashesN w L)[i]? = some (k.hash w) := by rw [hashesN, List.getElem?_map, hp, ← hk]; rfl
  have hil : i < t.place.toList.length := by
    rw [R.tab.len, hashesN, List.length_map]
    exact (List.getElem?_eq_some_iff.mp hp).1
  have hj := List.getElem?_eq_getElem hil
  obtain ⟨c, hc, e⟩ := R.tab.pre hn hi hj
  exact ⟨c, Nat.zero_le _, hc, by rw [hj, e]⟩

theorem isN_same {h h' : Heap} {k : NestedKey} {a b : Addr} {o : Obj} {es : Array (Int × Value)} {ep : Nat} {t : SetTable} (hb : IsN h k b) (ho : h.get? a = some o) (hd : o.data = .set es ep t) (hs : Heap.SameBut a h h') : IsN h' k b :=
  ⟨NestedIs.at (fun c o' vs n hc hq => (hs.2 c (by
    rintro rfl
    obtain rfl : o' = o := Option.some.inj (hc.symm.trans ho)
    rw [hd] at hq
    cases hq)).trans hc) k _ hb.1, hb.2⟩
theorem isN_keep {h h' : Heap} {k : NestedKey} {b : Addr} (x : IsN h k b) (hk : ∀ c o, h.get? c = some o → h'.get? c = some o) : IsN h' k b := ⟨NestedIs.at (fun c o vs n hc _ => hk c o hc) k _ x.1, x.2⟩
theorem pick_all {α : Type} (l : List α) : (List.range l.length).filterMap (fun i => l[i]?) = l := PySem.List.filterMap_getElem?_range_length l
theorem pick_congr {α β : Type} {f g : α → Option β} : ∀ {l : List α}, (∀ x ∈ l, f x = g x) → l.filterMap f = l.filterMap g
  | [], _ => rfl
  | x :: l, h => by
    rw [List.filterMap_cons, List.filterMap_cons, h x List.mem_cons_self, pick_congr fun y hy => h y (List.mem_cons_of_mem _ hy)]
/-- entries in a new order -/
theorem rows_order (L : List (Addr × NestedKey)) (es : Array (Int × Value)) (order : Array Nat) (hr : es.toList = rowsN w L) (hp : order.toList.Perm (List.range L.length)) :
    ∃ Lz, (order.filterMap (es[·]?)).toList = rowsN w Lz ∧ Lz.Perm L ∧ hashesN w Lz = order.toList.map fun i => (es.map (·.1)).getD i 0 := by
  have ent : ∀ (i : Nat) (p : Addr × NestedKey), L[i]? = some p → es[i]? = some (p.2.hash w, Value.ref p.1) := fun i p h => by rw [← Array.getElem?_toList, hr, rowsN, List.getElem?_map, h]; rfl
  refine ⟨order.toList.filterMap fun i => L[i]?, ?_, ?_, ?_⟩
  · rw [Array.toList_filterMap, rowsN, List.map_filterMap]
    refine pick_congr fun i hi => ?_
    have hil : i < L.length := List.mem_range.mp (hp.mem_iff.mp hi)
    rw [ent i _ (List.getElem?_eq_getElem hil), List.getElem?_eq_getElem hil]
    rfl
  · have h := hp.filterMap fun i => L[i]?
    rwa [pick_all] at h
  · rw [hashesN, List.map_filterMap, ← List.filterMap_eq_map]
    refine pick_congr fun i hi => ?_
    have hil : i < L.length := List.mem_range.mp (hp.mem_iff.mp hi)
    have e5 : (es.map (·.1))[i]? = some ((L[i]).2.hash w) := by rw [Array.getElem?_map, ent i _ (List.getElem?_eq_getElem hil)]; rfl
    rw [List.getElem?_eq_getElem hil, Function.comp, Array.getD_eq_getD_getElem?, e5]
    rfl
theorem relay_set {o : Obj} (ho : s.heap.get? a = some o) (hex : o.ExactSet) (hd : o.data = .set es ep t) (hrows : es.toList = rowsN w L) (T : Tab t (hashesN w L)) (hl : L.length ≤ t.mask) (nd : (L.map (·.2)).Nodup) (tup : ∀ p ∈ L, IsN s.heap p.2 p.1)
    (ld : w.params.followText "set-order" = true ∨ t.led = true) {wanted m : Nat} (hw : SetTable.sizeAbove wanted - 1 = m) (hm : Ones m) (hn : L.length * 5 < m * 3) {Q : Unit → Shared → Prop}
    (hQ : ∀ h' L' es' ep' t', Heap.SameBut a s.heap h' → SetN w h' a L' es' ep' t' → L'.Perm L → Q () { s with heap := h' }) : wpAny (model P w) A (setRelay a wanted) Q E s := by
  have hsl := rowsN_length hrows
  have hml := hm.le
  obtain ⟨t', order, e, hp, T', em, el, _⟩ := relay_tab t (hs := es.map (·.1)) (wanted := wanted) hw hm (by rw [Array.size_map, hsl]; omega)
  rw [Array.size_map, hsl] at hp
  obtain ⟨Lz, r1, r2, r3⟩ := rows_order (w := w) L es order hrows hp
  rw [← r3] at T'
  have hs2 : (order.filterMap (es[·]?)).size = es.size := by rw [rowsN_length r1, hsl, r2.length_eq]
  rw [L2.setRelay_eq]
  refine wpAny_bind (wpAny_setState_of ho hd (fits_of (m := 0) T (by rw [hashesN, List.length_map, hsl]) (by rw [hsl]; exact hl)) ?_)
  dsimp only
  refine wp_if_neg (by rw [sizeLine_eq]; omega) ?_
  try refine wpAny_bind (wpAny_pure ?_)
  rw [e]
  dsimp only
  refine wpAny_bind ?_
  refine wp_if_neg (by rw [hs2]; simp) ?_
  try refine wpAny_bind (wpAny_pure ?_)
  refine wpAny_pure ?_
  dsimp only
  refine wpAny_storeSet_of ho hd ?_ (by rw [hs2, hsl, sizeLine_eq]; omega)
  have sb : Heap.SameBut a s.heap (s.heap.update a (Obj.putSet (order.filterMap (es[·]?)) t')) := Heap.SameBut.update ..
  refine hQ _ Lz (order.filterMap (es[·]?)) (ep + 1) t' sb ⟨⟨_, store_at ho hd, ⟨hex.1, hex.2.1, hex.2.2⟩, rfl⟩, r1, T', (r2.map (·.2)).nodup_iff.mpr nd, fun p hpm => isN_same (tup p (r2.mem_iff.mp hpm)) ho hd sb, by rw [el]; exact ld, ?_⟩ r2
  rw [r2.length_eq, em]
  exact hn
/-- the sizes that come when it grows -/
theorem grows {m n : Nat} (hm : Ones m) (h1 : n * 5 < m * 3) (h2 : (n + 1) * 5 ≥ m * 3) (h3 : n + 1 ≤ 4914) : ∃ m', SetTable.sizeAbove (SetTable.grown (n + 1)) - 1 = m' ∧ Ones m' ∧ (n + 1) * 5 < m' * 3 := by
  obtain ⟨k, k1, k2, e⟩ := hm
  have cases4 : n = 4 ∨ n = 18 ∨ n = 76 ∨ n = 306 ∨ n = 1228 := by
    have : k = 3 ∨ k = 5 ∨ k = 7 ∨ k = 9 ∨ k = 11 ∨ k = 13 := by omega
    rcases this with h | h | h | h | h | h <;> subst h <;> simp at e <;> omega
  rcases cases4 with rfl | rfl | rfl | rfl | rfl
  · exact ⟨31, by decide +kernel, ⟨5, by decide, by decide, rfl⟩, by decide⟩
  · exact ⟨127, by decide +kernel, ⟨7, by decide, by decide, rfl⟩, by decide⟩
  · exact ⟨511, by decide +kernel, ⟨9, by decide, by decide, rfl⟩, by decide⟩
  · exact ⟨2047, by decide +kernel, ⟨11, by decide, by decide, rfl⟩, by decide⟩
  · exact ⟨8191, by decide +kernel, ⟨13, by decide, by decide, rfl⟩, by decide⟩
end
end MV
end

section
set_option maxHeartbeats 4000000
/-! sets filled from a list or a tuple -/
namespace MV
open PySem PySem.Spec PyProof.Rows L2

section
variable {P : Program} {w : World} {A : Around} {E : Value → Shared → Prop} {s : Shared} {a : Addr} {L : List (Addr × NestedKey)} {es : Array (Int × Value)} {ep : Nat} {t : SetTable}
/-- one more tuple -/
theorem add_set (R : SetN w s.heap a L es ep t) {x : Addr} {k : NestedKey} (hx : IsN s.heap k x) (hu : A.units + 8 < cLine) (few : L.length + 1 ≤ 4914) {Q : Bool → Shared → Prop}
    (hQ : ∀ b h' L' es' ep' t', Heap.SameBut a s.heap h' → SetN w h' a L' es' ep' t' → (k ∈ L.map (·.2) → L' = L) → (k ∉ L.map (·.2) → L'.Perm ((x, k) :: L)) → Q b { s with heap := h' }) :
    wpAny (model P w) A (setAddHashed a (.ref x) (k.hash w)) Q E s := by
  obtain ⟨o, ho, hex, hd⟩ := R.ob
  have hsl := R.size
  have hroom := R.room
  unfold setAddHashed
  refine wpAny_holding ?_
  rw [show (100000 : Nat) = 99999 + 1 from rfl, L2.setAddHashedIn_succ]
  refine wpAny_bind (wpAny_setState_of ho hd R.fits ?_)
  dsimp only
  refine wp_if_neg (by simp [byScan, Value.scannable]) ?_
  try refine wpAny_bind (wpAny_pure ?_)
  refine wpAny_bind (find_at R hx hu (fun hm => ?_) fun n hm hn hb => ?_)
  · exact wpAny_pure (hQ false s.heap L es ep t (Heap.SameBut.refl a s.heap) R (fun _ => rfl) fun z => absurd hm z)
  · dsimp only
    refine wpAny_bind (wpAny_setState_of ho hd R.fits ?_)
    dsimp only
    generalize hp : SetTable.below t.place (L2.way t.mask (k.hash w) n) = p
    obtain ⟨q1, q2, q3, q4, q5, q6, q7⟩ := R.tab.put hn hb hp
    generalize hpt : t.put (L2.way t.mask (k.hash w) n) = pt at q1 q3 q4 q5 q6 q7 ⊢
    obtain ⟨t1, p1⟩ := pt
    dsimp only at q1 q3 q4 q5 q6 q7 ⊢
    subst q1
    have hin : (SetTable.insertAt es p1 (k.hash w, Value.ref x)).toList = rowsN w (L.take p1 ++ (x, k) :: L.drop p1) := by
      rw [SetTable.toList_insertAt, R.rows, rowsN, rowsN, List.map_append, List.map_cons, List.map_take, List.map_drop]
    have hhs : hashesN w (L.take p1 ++ (x, k) :: L.drop p1) = (hashesN w L).take p1 ++ k.hash w :: (hashesN w L).drop p1 := by
      rw [hashesN, hashesN, List.map_append, List.map_cons, List.map_take, List.map_drop]
    rw [← hhs] at q3
    have pm : (L.take p1 ++ (x, k) :: L.drop p1).Perm ((x, k) :: L) := by
      have := List.perm_middle (a := (x, k)) (l₁ := L.take p1) (l₂ := L.drop p1)
      rwa [List.take_append_drop] at this
    generalize L.take p1 ++ (x, k) :: L.drop p1 = L1 at pm hin q3
    have hlen : L1.length = L.length + 1 := pm.length_eq
    have nd1 : (L1.map (·.2)).Nodup := (pm.map (·.2)).nodup_iff.mpr (by rw [List.map_cons]; exact List.nodup_cons.mpr ⟨hm, R.nd⟩)
    have hes := rowsN_length hin
    generalize SetTable.insertAt es p1 (k.hash w, Value.ref x) = es1 at hin hes ⊢
    have last : ∀ t2 : SetTable, t2.place = t1.place → t2.dummies = t1.dummies → t2.mask = t1.mask → t2.led = t1.led →
        wpAny (model P w) A (do
          storeSet a es1 t2
          if !false && t2.tooFull then setRelay a (SetTable.grown (es.size + 1))
          return true) Q E s := by
      intro t2 f1 f2 f3 f4
      have T2 : Tab t2 (hashesN w L1) := ⟨by rw [f1]; exact q3.ris, by rw [f2]; exact q3.dm, by rw [f1]; exact q3.sz, by rw [f3]; exact q3.one, by rw [f1, f3]; exact q3.le, by rw [f1, f3]; exact q3.way⟩
      refine wpAny_bind (wpAny_storeSet_of ho hd ?_ (by rw [hes, hlen, sizeLine_eq]; omega))
      have sb : Heap.SameBut a s.heap (s.heap.update a (Obj.putSet es1 t2)) := Heap.SameBut.update ..
      have ho1 := store_at (es' := es1) (t' := t2) ho hd
      generalize s.heap.update a (Obj.putSet es1 t2) = h1 at sb ho1 ⊢
      have tup1 : ∀ p ∈ L1, IsN h1 p.2 p.1 := fun p hp => by
        rcases List.mem_cons.mp (pm.mem_iff.mp hp) with e | hp
        · rw [e]; exact isN_same hx ho hd sb
        · exact isN_same (R.tup p hp) ho hd sb
      have ld2 : w.params.followText "set-order" = true ∨ t2.led = true := by rw [f4, q5]; exact R.led
      have fill2 : t2.tooFull = decide ((L.length + 1) * 5 ≥ t.mask * 3) := by
        unfold SetTable.tooFull SetTable.fill
        rw [f3, q4, T2.dm, T2.sz, hashesN, List.length_map, hlen]
        rfl
      by_cases hf : t2.tooFull = true
      · first
          | (refine wpAny_bind ?_; refine wp_if_pos (by simp [hf]) ?_)
          | (refine wp_if_pos (by simp [hf]) ?_; refine wpAny_bind ?_)
        rw [fill2, decide_eq_true_eq] at hf
        obtain ⟨m', g1, g2, g3⟩ := grows R.tab.one hroom hf (by omega)
        rw [hsl]
        refine relay_set (s := { s with heap := h1 }) ho1 ⟨hex.1, hex.2.1, hex.2.2⟩ rfl hin T2 (by rw [hlen, f3, q4]; have := R.tab.one; obtain ⟨k', k1, k2, e⟩ := this; have := Nat.pow_le_pow_right (show 0 < 2 by decide) k1; omega) nd1 tup1 ld2 g1 g2 (by rw [hlen]; exact g3) ?_
        intro h2 L3 es2 ep2 t3 sb2 R2 pm2
        exact wpAny_pure (hQ true h2 L3 es2 ep2 t3 (sb.trans sb2) R2 (fun z => absurd z hm) fun _ => pm2.trans pm)
      · first
          | refine wp_if_neg (by simp [hf]) ?_
          | (refine wpAny_bind ?_; refine wp_if_neg (by simp [hf]) ?_; refine wpAny_pure ?_)
        rw [fill2, decide_eq_true_eq] at hf
        refine wpAny_pure (hQ true h1 L1 es1 (ep + 1) t2 sb ⟨⟨_, ho1, ⟨hex.1, hex.2.1, hex.2.2⟩, rfl⟩, hin, T2, nd1, tup1, ld2, ?_⟩ (fun z => absurd z hm) fun _ => pm)
        rw [hlen, f3, q4]
        omega
    have pick : ∀ b : Bool, wpAny (model P w) A (do
          storeSet a es1 (if b = true then t1 else { t1 with plain := false })
          if !false && (if b = true then t1 else { t1 with plain := false }).tooFull then setRelay a (SetTable.grown (es.size + 1))
          return true) Q E s := fun b => by
      cases b
      · exact last _ rfl rfl rfl rfl
      · exact last _ rfl rfl rfl rfl
    by_cases hpl : t1.plain = true
    · first
        | (refine wpAny_bind ?_; refine wp_if_pos hpl ?_; exact byValue_key k _ 8 hx.1 _ _ pick)
        | exact wp_if_pos hpl (wpAny_bind (byValue_key k _ 8 hx.1 _ _ pick))
    · first
        | (refine wpAny_bind ?_; refine wp_if_neg hpl ?_; exact wpAny_pure (pick true))
        | exact wp_if_neg hpl (wpAny_bind (wpAny_pure (pick true)))
        | exact wp_if_neg hpl (pick true)

/-- what filling asks of each item: Rel i h says what the set at S holds behind i items -/
structure Fills (P : Program) (w : World) (A : Around) (S : Addr) (items : Array Value) (wr : List Addr) (Rel : Nat → Heap → Prop) : Prop where
  keep : ∀ i h h', Rel i h → (∀ b o, b ∉ wr → h.get? b = some o → h'.get? b = some o) → Rel i h'
  add : ∀ (i : Nat) (v : Value) (E : Value → Shared → Prop) (s : Shared) (Q : Bool → Shared → Prop), items[i]? = some v → Rel i s.heap → (∀ b h' tk, Heap.SameBut S s.heap h' → s.toks ≤ tk → Rel (i + 1) h' → Q b { s with heap := h', toks := tk }) →
    wpAny (model P w) A (setAdd S v) Q E s
theorem fill_loop {I : Addr} {fp wr : List Addr} {G : Array GenState → Array GenState → Prop} {n : Nat} {Pv : Nat → Value → Prop} {St : Nat → Shared → Prop} {R : Result → Shared → Prop} {items : Array Value} {Rel : Nat → Heap → Prop}
    (W : WalksS P w A.in1 I fp wr G n Pv St) (S : Addr) (hSf : S ∉ fp) (hval : ∀ i v, Pv i v → items[i]? = some v) (Fl : Fills P w A.in1 S items wr Rel) :
    ∀ (k i : Nat) (s : Shared), n - i = k → i ≤ n → St i s → Rel i s.heap → (∀ s', Moved (S :: wr) G s s' → Rel n s'.heap → R (.ok (.ret .none)) s') → codeAny (model P w) A (.builtin "set.update.loop" ⟨[.ref S, .ref I], []⟩) R s := by
  have hsub : ∀ b ∈ wr, b ∈ S :: wr := fun b hb => List.mem_cons_of_mem _ hb
  intro k
  induction k with
  | zero =>
    intro i s hk hi st rel hR
    obtain rfl : i = n := by omega
    refine codeAny_builtin F.entry_set_update_loop ?_
    rw [Around.under_plainId F.plain_set_update_loop _]
    show wpAny _ A.in1 (pyNext (.ref I) >>= _) _ _ s
    exact wpAny_bind (W.done s _ _ st fun s' mv => wpAny_pure (hR s' (mv.mono hsub) (Fl.keep _ _ _ rel fun b o hb e => mv.heap b o hb e)))
  | succ k ih =>
    intro i s hk hi st rel hR
    have hlt : i < n := by omega
    refine codeAny_builtin F.entry_set_update_loop ?_
    rw [Around.under_plainId F.plain_set_update_loop _]
    show wpAny _ A.in1 (pyNext (.ref I) >>= _) _ _ s
    refine wpAny_bind (W.item i s _ _ hlt st fun v s1 hP st1 mv => ?_)
    show wpAny _ A.in1 (holding [v] (setAdd S v) >>= _) _ _ s1
    refine wpAny_bind (wpAny_holding (Fl.add i v _ s1 _ (hval i v hP) (Fl.keep _ _ _ rel fun b o hb e => mv.heap b o hb e) fun b h' tk sb htk rel1 => ?_))
    have old : ∀ b o, b ∉ S :: wr → s1.heap.get? b = some o → h'.get? b = some o := fun b o hb e => (sb.2 b fun z => hb (by rw [z]; exact List.mem_cons_self)).trans e
    refine wpAny_pure ⟨plainId_quiet F.plain_set_update_loop _, ih (i + 1) _ (by omega) hlt (W.frame _ s1 _ _ st1 htk fun b hb o e => ?_) rel1 fun s2 mv2 rel2 => hR s2 (Moved.trans W.gtrans ((mv.mono hsub).then_heap htk old) mv2) rel2⟩
    exact (sb.2 b fun z => hSf (by rw [← z]; exact hb)).trans e
abbrev freshSet (w : World) : Obj := { cls := .type "set", dict := none, data := .set #[] 0 (.fresh 0 0 (!w.params.followText "set-order")) }
end
end MV
end

section
set_option maxHeartbeats 4000000
/-! sets filled from a list or a tuple -/
namespace MV
open PySem PySem.Spec PyProof.Rows L2

section
variable {P : Program} {w : World} {A : Around} {E : Value → Shared → Prop} {s : Shared}
set_option maxHeartbeats 8000000 in
theorem fill_list {l : Addr} {items : Array Value} {Rel : Nat → Heap → Prop} {Q : Value → Shared → Prop} (hh : A.handled = none) (hl : s.heap.IsList l items)
    (Fl : Fills P w A.in1.in1.in1 s.heap.objs.size items [s.heap.objs.size + 1] Rel) (h0 : ∀ h', (∀ b o, s.heap.get? b = some o → h'.get? b = some o) → h'.get? s.heap.objs.size = some (freshSet w) → Rel 0 h')
    (h : ∀ (h' : Heap) (tk : Nat), Rel items.size h' → (∀ b o, s.heap.get? b = some o → h'.get? b = some o) → Q (.ref s.heap.objs.size) { s with heap := h', toks := tk }) :
    wpAny (model P w) A (call (.type "set") [.ref l]) Q E s := by
  obtain ⟨c, tl, hmro⟩ := F.called_set.mro
  have hmade := F.called_set.made
  have hsub := F.called_set.sub
  refine wpAny_call (codeAny_of_tree ?_)
  show wpAny _ _ (callAny (.type "set") _) _ _ _
  refine wpAny_pure ⟨Code.quiet_builtin _ (by decide +kernel), codeAny_builtin F.entry_type_call ?_⟩
  rw [Around.under_plain (weight_type_call_type "set" [.ref l] []) rfl]
  have t1 := F.called_set.notType
  have t2 := F.called_set.canCreate
  have t3 := F.typeCall_set_1 (.ref l)
  repeat (any_goals (first | assumption | wp_step))
  refine codeAny_mono (code_set_led1 (.ref l) (E := E) (Q₁ := fun obj s1 => obj = .ref s.heap.objs.size ∧ s1 = { s with heap := s.heap.push (freshSet w) }) ⟨rfl, rfl⟩) fun r s1 hr => ?_
  cases r with
  | error e => exact hr
  | ok fl =>
    cases fl with
    | ret obj =>
      obtain ⟨rfl, rfl⟩ := hr
      have hS : (s.heap.push (freshSet w)).get? s.heap.objs.size = some (freshSet w) := Heap.get?_push_size _ rfl
      have hT : Shared.TypeIs { s with heap := s.heap.push (freshSet w) } (.ref s.heap.objs.size) "set" := ⟨_, hS, rfl⟩
      have t4 := F.called_set.init.lookup
      have t5 := F.called_set.init.bind (.ref s.heap.objs.size)
      repeat (any_goals (first | assumption | wp_step))
      refine codeAny_mono (codeAny_call_builtin (R := wants (fun r s2 => r = .none ∧ ∃ h' tk, s2 = { s with heap := h', toks := tk } ∧ Rel items.size h' ∧ ∀ b o, s.heap.get? b = some o → h'.get? b = some o) E) F.called_set.init.plain F.entry_set_init (check_set_init_1 hT ?_)) fun r2 s2 hr2 => ?_
      · obtain ⟨⟨ocls, odict, odata, oslots⟩, hol, hcl, nl, hdl⟩ := hl
        simp only at hcl hdl
        subst hcl hdl
        have hol1 : (s.heap.push (freshSet w)).get? l = some { cls := .type "list", dict := odict, data := .seq items nl, slots := oslots } := Heap.get?_push_of_some _ hol
        have t6 := F.sub_list_set
        have t7 := F.sub_list_frozenset
        have t8 : (Value.type "list" == Value.type "dict") = false := by decide
        have hl1 : (s.heap.push (freshSet w)).IsList l items := ⟨_, hol1, rfl, nl, rfl⟩
        unfold Builtin.«set.__init__» noKeywords Builtin.Frozenset.updateFrom
        generalize hPI : pyIter = PI
        wp_walk
        subst hPI
        refine wpAny_pyIter_list hl1 (wpAny_bind (wpAny_runValue ?_))
        have hlS : l < s.heap.objs.size := Heap.lt_size hol
        have hz1 : (s.heap.push (freshSet w)).objs.size = s.heap.objs.size + 1 := Heap.size_push ..
        have keep2 : ∀ b o, s.heap.get? b = some o → ((s.heap.push (freshSet w)).push { cls := .type "list_iterator", data := .fields #[.ref l, .int 0 0] }).get? b = some o := fun b o e => Heap.get?_push_of_some _ (Heap.get?_push_of_some _ e)
        refine fill_loop (items := items) (Rel := Rel) ((Walks.list (show A.in1.in1.in1.handled = none by simp [hh]) _ l (by rw [hz1]; exact Nat.ne_of_lt (Nat.lt_succ_of_lt hlS)) items).toS) s.heap.objs.size (by rw [hz1]; simp only [List.mem_cons, List.not_mem_nil, or_false, not_or]; exact ⟨Nat.ne_of_lt (Nat.lt_succ_self _), Nat.ne_of_gt hlS⟩) (fun i v e => e) (by rw [hz1]; exact Fl)
          (items.size - 0) 0 _ rfl (Nat.zero_le _) ⟨⟨_, Heap.get?_push_size _ rfl, rfl, rfl⟩, (hl1.push _)⟩ (h0 _ keep2 (Heap.get?_push_of_some _ hS)) ?_
        intro s' mv rel
        obtain ⟨h', g2, d', tk', os'⟩ := s'
        obtain rfl : g2 = s.gens := mv.gens
        obtain rfl : d' = s.drawn := mv.drawn
        obtain rfl : os' = s.os := mv.os
        show wpAny _ _ _ _ _ _
        refine wpAny_pure ?_
        show wpAny _ _ (ret Value.none) _ _ _
        refine wpAny_pure ⟨rfl, h', tk', rfl, rel, fun b o e => mv.heap b o (fun hb => ?_) (keep2 b o e)⟩
        have hb0 : b < s.heap.objs.size := Heap.lt_size e
        rw [hz1] at hb
        simp only [List.mem_cons, List.not_mem_nil, or_false] at hb
        rcases hb with z | z
        · exact absurd z (Nat.ne_of_lt hb0)
        · exact absurd z (Nat.ne_of_lt (Nat.lt_succ_of_lt hb0))
      · cases r2 with
        | error e => exact hr2
        | ok fl2 =>
          cases fl2 with
          | ret r =>
            obtain ⟨rfl, h', tk, rfl, rel, k'⟩ := hr2
            repeat (any_goals (first | assumption | wp_step))
            exact h _ _ rel k'
          | _ => exact hr2.elim
    | _ => exact hr.elim
set_option maxHeartbeats 8000000 in
theorem fill_tuple {l : Addr} {items : Array Value} {Rel : Nat → Heap → Prop} {Q : Value → Shared → Prop} (hh : A.handled = none) (hl : s.heap.IsTuple l items)
    (Fl : Fills P w A.in1.in1.in1 s.heap.objs.size items [s.heap.objs.size + 1] Rel) (h0 : ∀ h', (∀ b o, s.heap.get? b = some o → h'.get? b = some o) → h'.get? s.heap.objs.size = some (freshSet w) → Rel 0 h')
    (h : ∀ (h' : Heap) (tk : Nat), Rel items.size h' → (∀ b o, s.heap.get? b = some o → h'.get? b = some o) → Q (.ref s.heap.objs.size) { s with heap := h', toks := tk }) :
    wpAny (model P w) A (call (.type "set") [.ref l]) Q E s := by
  obtain ⟨c, tl, hmro⟩ := F.called_set.mro
  have hmade := F.called_set.made
  have hsub := F.called_set.sub
  refine wpAny_call (codeAny_of_tree ?_)
  show wpAny _ _ (callAny (.type "set") _) _ _ _
  refine wpAny_pure ⟨Code.quiet_builtin _ (by decide +kernel), codeAny_builtin F.entry_type_call ?_⟩
  rw [Around.under_plain (weight_type_call_type "set" [.ref l] []) rfl]
  have t1 := F.called_set.notType
  have t2 := F.called_set.canCreate
  have t3 := F.typeCall_set_1 (.ref l)
  repeat (any_goals (first | assumption | wp_step))
  refine codeAny_mono (code_set_led1 (.ref l) (E := E) (Q₁ := fun obj s1 => obj = .ref s.heap.objs.size ∧ s1 = { s with heap := s.heap.push (freshSet w) }) ⟨rfl, rfl⟩) fun r s1 hr => ?_
  cases r with
  | error e => exact hr
  | ok fl =>
    cases fl with
    | ret obj =>
      obtain ⟨rfl, rfl⟩ := hr
      have hS : (s.heap.push (freshSet w)).get? s.heap.objs.size = some (freshSet w) := Heap.get?_push_size _ rfl
      have hT : Shared.TypeIs { s with heap := s.heap.push (freshSet w) } (.ref s.heap.objs.size) "set" := ⟨_, hS, rfl⟩
      have t4 := F.called_set.init.lookup
      have t5 := F.called_set.init.bind (.ref s.heap.objs.size)
      repeat (any_goals (first | assumption | wp_step))
      refine codeAny_mono (codeAny_call_builtin (R := wants (fun r s2 => r = .none ∧ ∃ h' tk, s2 = { s with heap := h', toks := tk } ∧ Rel items.size h' ∧ ∀ b o, s.heap.get? b = some o → h'.get? b = some o) E) F.called_set.init.plain F.entry_set_init (check_set_init_1 hT ?_)) fun r2 s2 hr2 => ?_
      · obtain ⟨⟨ocls, odict, odata, oslots⟩, hol, hcl, nl, hdl⟩ := hl
        simp only at hcl hdl
        subst hcl hdl
        have hol1 : (s.heap.push (freshSet w)).get? l = some { cls := .type "tuple", dict := odict, data := .seq items nl, slots := oslots } := Heap.get?_push_of_some _ hol
        have t6 := F.sub_tuple_set
        have t7 := F.sub_tuple_frozenset
        have t8 : (Value.type "tuple" == Value.type "dict") = false := by decide
        have hl1 : (s.heap.push (freshSet w)).IsTuple l items := ⟨_, hol1, rfl, nl, rfl⟩
        unfold Builtin.«set.__init__» noKeywords Builtin.Frozenset.updateFrom
        generalize hPI : pyIter = PI
        wp_walk
        subst hPI
        refine wpAny_pyIter_tuple hl1 (wpAny_bind (wpAny_runValue ?_))
        have hlS : l < s.heap.objs.size := Heap.lt_size hol
        have hz1 : (s.heap.push (freshSet w)).objs.size = s.heap.objs.size + 1 := Heap.size_push ..
        have keep2 : ∀ b o, s.heap.get? b = some o → ((s.heap.push (freshSet w)).push { cls := .type "tuple_iterator", data := .fields #[.ref l, .int 0 0] }).get? b = some o := fun b o e => Heap.get?_push_of_some _ (Heap.get?_push_of_some _ e)
        refine fill_loop (items := items) (Rel := Rel) ((Walks.tuple (show A.in1.in1.in1.handled = none by simp [hh]) _ l (by rw [hz1]; exact Nat.ne_of_lt (Nat.lt_succ_of_lt hlS)) items).toS) s.heap.objs.size (by rw [hz1]; simp only [List.mem_cons, List.not_mem_nil, or_false, not_or]; exact ⟨Nat.ne_of_lt (Nat.lt_succ_self _), Nat.ne_of_gt hlS⟩) (fun i v e => e) (by rw [hz1]; exact Fl)
          (items.size - 0) 0 _ rfl (Nat.zero_le _) ⟨⟨_, Heap.get?_push_size _ rfl, rfl, rfl⟩, (hl1.push _)⟩ (h0 _ keep2 (Heap.get?_push_of_some _ hS)) ?_
        intro s' mv rel
        obtain ⟨h', g2, d', tk', os'⟩ := s'
        obtain rfl : g2 = s.gens := mv.gens
        obtain rfl : d' = s.drawn := mv.drawn
        obtain rfl : os' = s.os := mv.os
        show wpAny _ _ _ _ _ _
        refine wpAny_pure ?_
        show wpAny _ _ (ret Value.none) _ _ _
        refine wpAny_pure ⟨rfl, h', tk', rfl, rel, fun b o e => mv.heap b o (fun hb => ?_) (keep2 b o e)⟩
        have hb0 : b < s.heap.objs.size := Heap.lt_size e
        rw [hz1] at hb
        simp only [List.mem_cons, List.not_mem_nil, or_false] at hb
        rcases hb with z | z
        · exact absurd z (Nat.ne_of_lt hb0)
        · exact absurd z (Nat.ne_of_lt (Nat.lt_succ_of_lt hb0))
      · cases r2 with
        | error e => exact hr2
        | ok fl2 =>
          cases fl2 with
          | ret r =>
            obtain ⟨rfl, h', tk, rfl, rel, k'⟩ := hr2
            repeat (any_goals (first | assumption | wp_step))
            exact h _ _ rel k'
          | _ => exact hr2.elim
    | _ => exact hr.elim
end
end MV
end

section
set_option maxHeartbeats 4000000
/-! sorted(set(xs)), sorted(xs) -/
namespace MV
open PySem PySem.Spec PyProof.Rows L2

/-! keys -/
section
variable {X : Cx} {pins : List (Addr × Obj)} {σ : S2} {H : Hp} {s : Shared} {F : Addr → Prop}
mutual
theorem VR.key (I : L2.Inv X pins σ H s) : ∀ {v : V} {x : Val} {L : List Addr} {k : NestedKey} {u : Value}, VR X.prog X.w X.K F H v x L → x.nkey = some k → RelV v u → NestedIs s.heap k u
  | _, _, _, k, u, .non, e, r => by
    simp only [Val.nkey, Option.some.injEq] at e
    subst e; cases r; exact .none
  | _, _, _, k, u, .bl b, e, r => by
    simp only [Val.nkey, Option.some.injEq] at e
    subst e; cases r; exact .bool (by cases b <;> rfl)
  | _, _, _, k, u, .int i, e, r => by
    simp only [Val.nkey, Option.some.injEq] at e
    subst e
    obtain ⟨t, rfl⟩ := r
    exact .int _ _
  | _, _, _, k, u, .str z, e, r => by
    simp only [Val.nkey, Option.some.injEq] at e
    subst e
    obtain ⟨t, rfl⟩ := r
    exact .text _ _
  | _, _, _, k, u, .tup (xs := xs) hA hs, e, r => by
    simp only [Val.nkey, Option.map_eq_some_iff] at e
    obtain ⟨ks, ek, rfl⟩ := e
    cases r
    obtain ⟨its, rv, ⟨o, ho, hc, n, hd⟩, hz⟩ := I.tuple hA.sq
    exact .tup ho hc hd (VRs.keys I hs ek rv)
  | _, _, _, k, u, .lst _ _, e, r => by simp [Val.nkey] at e
  | _, _, _, k, u, .scr _, e, r => by simp [Val.nkey] at e
  | _, _, _, k, u, .dK _ _ _, e, r => by simp [Val.nkey] at e
  | _, _, _, k, u, .dT _ _ _ _ _, e, r => by simp [Val.nkey] at e
theorem VRs.keys (I : L2.Inv X pins σ H s) : ∀ {vs : List V} {xs : List Val} {L : List Addr} {ks : List NestedKey} {us : List Value}, VRs X.prog X.w X.K F H vs xs L → nkeyL xs = some ks → Vals vs us → NestedAll s.heap ks us
  | _, _, _, ks, us, .nil, e, r => by
    simp only [nkeyL, Option.some.injEq] at e
    subst e
    cases r
    exact .nil
  | _, _, _, ks, us, .cons (x := x) (xs := xs) h t, e, r => by
    simp only [nkeyL] at e
    split at e
    · rename_i k ks' e1 e2
      cases e
      cases r with
      | cons r1 r2 => exact .cons (VR.key I h e1 r1) (VRs.keys I t e2 r2)
    · cases e
end
end
mutual
/-- alike values of one key are one -/
theorem key_one : ∀ (x y : Val) (k : NestedKey), x.nkey = some k → y.nkey = some k → PySem.W.alike x.toD y.toD = true → x = y
  | .non, y, k, h1, h2, h3 => by cases y <;> simp_all [Val.nkey, Val.toD, PySem.W.alike]
  | .bl b, y, k, h1, h2, h3 => by
    cases y with
    | bl c =>
      simp only [Val.nkey, Option.some.injEq] at h1 h2
      rw [← h2] at h1
      injection h1 with h1
      cases b <;> cases c <;> simp_all
    | _ => simp_all [Val.nkey, Val.toD, PySem.W.alike]
  | .int i, y, k, h1, h2, h3 => by
    cases y with
    | int j =>
      simp only [Val.nkey, Option.some.injEq] at h1 h2
      rw [← h2] at h1
      injection h1 with h1
      rw [h1]
    | _ => simp_all [Val.nkey, Val.toD, PySem.W.alike]
  | .str z, y, k, h1, h2, h3 => by
    cases y with
    | str j =>
      simp only [Val.nkey, Option.some.injEq] at h1 h2
      rw [← h2] at h1
      injection h1 with h1
      rw [h1]
    | _ => simp_all [Val.nkey, Val.toD, PySem.W.alike]
  | .tup xs, y, k, h1, h2, h3 => by
    cases y with
    | tup ys =>
      simp only [Val.nkey, Option.map_eq_some_iff] at h1 h2
      obtain ⟨k1, e1, rfl⟩ := h1
      obtain ⟨k2, e2, e3⟩ := h2
      injection e3 with e3
      subst e3
      simp only [Val.toD, PySem.W.alike] at h3
      rw [keys_one xs ys k2 e1 e2 h3]
    | non => simp_all [Val.toD, PySem.W.alike]
    | bl _ => simp_all [Val.toD, PySem.W.alike]
    | int _ => simp_all [Val.toD, PySem.W.alike]
    | str _ => simp_all [Val.toD, PySem.W.alike]
    | lst _ _ => simp [Val.nkey] at h2
    | dct _ _ _ _ => simp [Val.nkey] at h2
    | scr _ => simp [Val.nkey] at h2
  | .lst _ _, _, _, h1, _, _ => by simp [Val.nkey] at h1
  | .dct _ _ _ _, _, _, h1, _, _ => by simp [Val.nkey] at h1
  | .scr _, _, _, h1, _, _ => by simp [Val.nkey] at h1
theorem keys_one : ∀ (xs ys : List Val) (ks : List NestedKey), nkeyL xs = some ks → nkeyL ys = some ks → PySem.W.alikeAll (toDL xs) (toDL ys) = true → xs = ys
  | [], ys, ks, h1, h2, _ => by
    cases ys with
    | nil => rfl
    | cons y ys =>
      simp only [nkeyL, Option.some.injEq] at h1
      subst h1
      simp only [nkeyL] at h2
      split at h2 <;> simp at h2
  | x :: xs, [], ks, h1, h2, _ => by
    simp only [nkeyL, Option.some.injEq] at h2
    subst h2
    simp only [nkeyL] at h1
    split at h1 <;> simp at h1
  | x :: xs, y :: ys, ks, h1, h2, h3 => by
    simp only [nkeyL] at h1 h2
    split at h1
    · rename_i k1 l1 a1 a2
      split at h2
      · rename_i k2 l2 b1 b2
        cases h1
        cases h2
        simp only [toDL, PySem.W.alikeAll, Bool.and_eq_true] at h3
        rw [key_one x y _ a1 b1 h3.1, keys_one xs ys _ a2 b2 h3.2]
      · cases h2
    · cases h1
end

/-! the order -/
def leB : Val → Val → Bool := PySem.W.dataLe false Val.toD
theorem leB_total : PySem.W.TotalLe leB := PySem.W.sortLe_total (PyProof.Rows.listOrd PyProof.Rows.itemOrd) false fun b => PySem.W.keyToks (Val.toD b)
def alikeL (xs : List Val) : Bool := xs.all fun x => xs.all fun y => PySem.W.alike x.toD y.toD
theorem alikeL_of {xs : List Val} (h : alikeL xs = true) {x y : Val} (hx : x ∈ xs) (hy : y ∈ xs) : PySem.W.alike x.toD y.toD = true := List.all_eq_true.mp (List.all_eq_true.mp h x hx) y hy
theorem alikeL_all {xs : List Val} (h : alikeL xs = true) : PySem.W.AllAlike (xs.map Val.toD) := by
  intro d hd d' hd'
  obtain ⟨x, hx, rfl⟩ := List.mem_map.mp hd
  obtain ⟨y, hy, rfl⟩ := List.mem_map.mp hd'
  exact alikeL_of h hx hy
/-- below neither way: the same tokens, so equal by == -/
theorem same_toks {x y : Val} (h1 : leB x y = true) (h2 : leB y x = true) : PySem.W.keyToks x.toD = PySem.W.keyToks y.toD := by
  simp only [leB, PySem.W.dataLe, PySem.W.sortLe, cond_false, Bool.not_eq_true'] at h1 h2
  exact (PyProof.Rows.listOrd PyProof.Rows.itemOrd).total _ _ h2 h1
theorem eqv_of_toks {d e : PyData} (ha : PySem.W.alike d e = true) (h : PySem.W.keyToks d = PySem.W.keyToks e) : PyData.eqv d e = true := by
  cases c : PyData.eqv d e with
  | true => rfl
  | false =>
    exfalso
    have h1 := (PySem.W.toks_eqv d e ha).2 c [] [.inl 0]
    rw [h, PySem.W.lex_pre] at h1
    have h2 : PyProof.Rows.lexLt PyProof.Rows.itemOrd (PySem.W.keyToks e) (PySem.W.keyToks e) = false := PyProof.Rows.lex_irrefl _
    rw [h2] at h1
    revert h1
    decide
mutual
theorem key_eqv : ∀ (x y : Val) (k : NestedKey), PySem.W.alike x.toD y.toD = true → PyData.eqv x.toD y.toD = true → x.nkey = some k → y.nkey = some k
  | .non, y, k, h1, h2, h3 => by cases y <;> simp_all [Val.nkey, Val.toD, PySem.W.alike]
  | .bl b, y, k, h1, h2, h3 => by cases y <;> simp_all [Val.nkey, Val.toD, PySem.W.alike, PyData.eqv]
  | .int i, y, k, h1, h2, h3 => by cases y <;> simp_all [Val.nkey, Val.toD, PySem.W.alike, PyData.eqv]
  | .str z, y, k, h1, h2, h3 => by cases y <;> simp_all [Val.nkey, Val.toD, PySem.W.alike, PyData.eqv]
  | .tup xs, y, k, h1, h2, h3 => by
    cases y with
    | tup ys =>
      simp only [Val.toD, PySem.W.alike, PyData.eqv] at h1 h2
      simp only [Val.nkey, Option.map_eq_some_iff] at h3 ⊢
      obtain ⟨ks, e, rfl⟩ := h3
      exact ⟨ks, keys_eqv xs ys ks h1 h2 e, rfl⟩
    | non => simp_all [Val.toD, PySem.W.alike]
    | bl _ => simp_all [Val.toD, PySem.W.alike]
    | int _ => simp_all [Val.toD, PySem.W.alike]
    | str _ => simp_all [Val.toD, PySem.W.alike]
    | lst _ _ => simp_all [Val.toD, PySem.W.alike]
    | dct _ _ _ _ => simp_all [Val.toD, PySem.W.alike]
    | scr _ => simp_all [Val.toD, PySem.W.alike]
  | .lst _ _, _, _, _, _, h1 => by simp [Val.nkey] at h1
  | .dct _ _ _ _, _, _, _, _, h1 => by simp [Val.nkey] at h1
  | .scr _, _, _, _, _, h1 => by simp [Val.nkey] at h1
theorem keys_eqv : ∀ (xs ys : List Val) (ks : List NestedKey), PySem.W.alikeAll (toDL xs) (toDL ys) = true → PyData.eqvAll (toDL xs) (toDL ys) = true → nkeyL xs = some ks → nkeyL ys = some ks
  | [], [], ks, _, _, h => h
  | [], y :: ys, ks, _, h2, _ => by simp [toDL, PyData.eqvAll] at h2
  | x :: xs, [], ks, _, h2, _ => by simp [toDL, PyData.eqvAll] at h2
  | x :: xs, y :: ys, ks, h1, h2, h3 => by
    simp only [toDL, PySem.W.alikeAll, PyData.eqvAll, Bool.and_eq_true] at h1 h2
    simp only [nkeyL] at h3 ⊢
    split at h3
    · rename_i k l e1 e2
      cases h3
      rw [key_eqv x y k h1.1 h2.1 e1, keys_eqv xs ys l h1.2 h2.2 e2]
    · cases h3
end
/-- the order tells alike keys apart -/
theorem leB_anti {x y : Val} {k : NestedKey} (hk : x.nkey = some k) (ha : PySem.W.alike x.toD y.toD = true) (h1 : leB x y = true) (h2 : leB y x = true) : x = y :=
  key_one x y k hk (key_eqv x y k ha (eqv_of_toks ha (same_toks h1 h2)) hk) ha
/-- one order alone of alike keys -/
theorem sort_perm {xs ys : List Val} (h : xs.Perm ys) (hk : ∀ x ∈ xs, (x.nkey).isSome = true) (ha : alikeL xs = true) : xs.mergeSort leB = ys.mergeSort leB := by
  have p : (xs.mergeSort leB).Perm (ys.mergeSort leB) := (List.mergeSort_perm xs leB).trans (h.trans (List.mergeSort_perm ys leB).symm)
  refine p.eq_of_pairwise (le := fun a b => leB a b = true) (fun a b hx hy h1 h2 => ?_) (PySem.W.sort_pairwise leB_total xs) (PySem.W.sort_pairwise leB_total ys)
  have mx : a ∈ xs := (List.mergeSort_perm xs leB).mem_iff.mp hx
  have my : b ∈ xs := h.mem_iff.mpr ((List.mergeSort_perm ys leB).mem_iff.mp hy)
  obtain ⟨k, e⟩ := Option.isSome_iff_exists.mp (hk a mx)
  exact leB_anti e (alikeL_of ha mx my) h1 h2

/-! each once -/
def dedV : List Val → List Val
  | [] => []
  | x :: r => x :: (dedV r).filter fun y => decide (y.nkey ≠ x.nkey)
theorem dedV_sub : ∀ (xs : List Val) (x : Val), x ∈ dedV xs → x ∈ xs
  | y :: r, x, h => by
    rcases List.mem_cons.mp h with e | h
    · rw [e]; exact List.mem_cons_self
    · exact List.mem_cons_of_mem _ (dedV_sub r x (List.mem_filter.mp h).1)
theorem dedV_all : ∀ (xs : List Val) (x : Val), x ∈ xs → ∃ y ∈ dedV xs, y.nkey = x.nkey
  | z :: r, x, h => by
    rcases List.mem_cons.mp h with e | h
    · exact ⟨z, List.mem_cons_self, by rw [e]⟩
    · obtain ⟨y, hy, e⟩ := dedV_all r x h
      by_cases c : y.nkey = z.nkey
      · exact ⟨z, List.mem_cons_self, c.symm.trans e⟩
      · exact ⟨y, List.mem_cons_of_mem _ (List.mem_filter.mpr ⟨hy, by simpa using c⟩), e⟩
theorem dedV_nodup : ∀ xs : List Val, ((dedV xs).map Val.nkey).Nodup
  | [] => List.nodup_nil
  | x :: r => by
    rw [dedV, List.map_cons]
    refine List.nodup_cons.mpr ⟨fun h => ?_, ?_⟩
    · obtain ⟨y, hy, e⟩ := List.mem_map.mp h
      have := (List.mem_filter.mp hy).2
      simp [e] at this
    · exact ((List.filter_sublist (l := dedV r)).map Val.nkey).nodup (dedV_nodup r)
theorem dedV_of_nodup : ∀ {xs : List Val}, (xs.map Val.nkey).Nodup → dedV xs = xs
  | [], _ => rfl
  | x :: r, h => by
    rw [List.map_cons, List.nodup_cons] at h
    rw [dedV, dedV_of_nodup h.2, List.filter_eq_self.mpr fun y hy => ?_]
    simp only [ne_eq, decide_not, Bool.not_eq_true', decide_eq_false_iff_not]
    exact fun e => h.1 (List.mem_map.mpr ⟨y, hy, e⟩)
/-- what has the same keys, each once, is the same but for the order -/
theorem same_keys {xs ys : List Val} (ha : alikeL xs = true) (hk : ∀ x ∈ xs, (x.nkey).isSome = true) (h1 : (ys.map Val.nkey).Nodup) (h2 : ∀ y ∈ ys, y ∈ xs) (h3 : ∀ x ∈ xs, x.nkey ∈ ys.map Val.nkey) : ys.Perm (dedV xs) := by
  have nd : ∀ {l : List Val}, (l.map Val.nkey).Nodup → l.Nodup := fun {l} h => List.Pairwise.of_map Val.nkey (fun _ _ hne e => hne (congrArg _ e)) h
  refine (List.perm_ext_iff_of_nodup (nd h1) (nd (dedV_nodup xs))).mpr fun x => ⟨fun h => ?_, fun h => ?_⟩
  · obtain ⟨y, hy, e⟩ := dedV_all xs x (h2 x h)
    have hy' := dedV_sub xs y hy
    obtain ⟨k, ek⟩ := Option.isSome_iff_exists.mp (hk x (h2 x h))
    rw [key_one x y k ek (e.trans ek) (alikeL_of ha (h2 x h) hy')]
    exact hy
  · have hx := dedV_sub xs x h
    obtain ⟨y, hy, e⟩ := List.mem_map.mp (h3 x hx)
    obtain ⟨k, ek⟩ := Option.isSome_iff_exists.mp (hk x hx)
    rw [key_one x y k ek (e.trans ek) (alikeL_of ha hx (h2 y hy))]
    exact hy
theorem alikeL_perm {xs ys : List Val} (ha : alikeL xs = true) (h : ∀ y ∈ ys, y ∈ xs) : alikeL ys = true :=
  List.all_eq_true.mpr fun x hx => List.all_eq_true.mpr fun y hy => alikeL_of ha (h x hx) (h y hy)
end MV
end

section
set_option maxHeartbeats 4000000
/-! sorted(set(xs)), sorted(xs): the rules -/
namespace MV
open PySem PySem.Spec PyProof.Rows L2

def SetIs (w : World) (h : Heap) (a : Addr) (us : List V) : Prop := ∃ o es ep t, h.get? a = some o ∧ o.cls = .type "set" ∧ o.data = .set es ep t ∧ t.fits es.size = true ∧ es.size < scanBound ∧ L2.Ris t.place.toList ∧
  (w.params.followText "set-order" = true ∨ t.led = true) ∧ Vals us (es.toList.map (·.2))
/-- a set that is only walked -/
def SetHO (w : World) (a : Addr) (us : List V) : HO := .ext fun h => SetIs w h a us
theorem setHO_new {P : Program} {w : World} {H : Hp} {h : Heap} {a : Addr} {us : List V} (R : SetIs w h a us) : ObjOk P w H h a (SetHO w a us) := by
  have ⟨o, es, ep, t, ho, r⟩ := R
  refine ⟨R, ⟨o, ho⟩, fun h1 h2 p k => ?_⟩
  obtain ⟨o', es', ep', t', ho', r'⟩ : SetIs w h1 a us := p
  exact (show SetIs w h2 a us from ⟨o', es', ep', t', k o' ho', r'⟩)

def intsOfV : List Val → Option (List Int)
  | [] => some []
  | .int i :: r => (intsOfV r).map (i :: ·)
  | _ :: _ => none
theorem intsOfV_eq : ∀ {xs : List Val} {ns : List Int}, intsOfV xs = some ns → xs = ns.map Val.int
  | [], ns, h => by simp only [intsOfV, Option.some.injEq] at h; subst h; rfl
  | x :: r, ns, h => by
    cases x <;> simp only [intsOfV, Option.map_eq_some_iff, reduceCtorEq] at h
    obtain ⟨ms, e, rfl⟩ := h
    rw [intsOfV_eq e]
    rfl
/-- a nonempty tuple that can be a key, told of by its data -/
def Val.row : Val → Bool
  | .tup (x :: r) => match (Val.tup (x :: r)).nkey with
    | some k => decide (k.depth ≤ 8) && (decide ((Val.tup (x :: r)).toD.depth ≤ 8) && (Val.tup (x :: r)).toD.canLay0)
    | none => false
  | _ => false
theorem Val.row_inv {x : Val} (h : x.row = true) : ∃ y r k, x = .tup (y :: r) ∧ x.nkey = some k ∧ k.depth ≤ 8 ∧ x.toD.depth ≤ 8 ∧ x.toD.canLay0 = true := by
  unfold Val.row at h
  split at h
  · split at h
    · rename_i k e
      rw [Bool.and_eq_true, Bool.and_eq_true, decide_eq_true_eq, decide_eq_true_eq] at h
      exact ⟨_, _, k, rfl, e, h.1, h.2⟩
    · cases h
  · cases h
/-- what can be made a set of and sorted here -/
def setOk (xs : List Val) : Bool := ((intsOfV xs).isSome && decide (xs.length ≤ 4000)) || (xs.all Val.row && alikeL xs && decide ((dedV xs).length ≤ 4000))
theorem setOk_keys {xs : List Val} (h : setOk xs = true) : alikeL xs = true ∧ (∀ x ∈ xs, (x.nkey).isSome = true) ∧ (dedV xs).length ≤ 4000 := by
  unfold setOk at h
  rw [Bool.or_eq_true] at h
  rcases h with h | h
  · rw [Bool.and_eq_true, decide_eq_true_eq] at h
    obtain ⟨ns, e⟩ := Option.isSome_iff_exists.mp h.1
    have hx := intsOfV_eq e
    refine ⟨?_, fun x hx' => ?_, ?_⟩
    · refine List.all_eq_true.mpr fun x hx' => List.all_eq_true.mpr fun y hy => ?_
      rw [hx] at hx' hy
      obtain ⟨i, _, rfl⟩ := List.mem_map.mp hx'
      obtain ⟨j, _, rfl⟩ := List.mem_map.mp hy
      rfl
    · rw [hx] at hx'
      obtain ⟨i, _, rfl⟩ := List.mem_map.mp hx'
      rfl
    · have key : ∀ l : List Val, (dedV l).length ≤ l.length := by
        intro l
        induction l with
        | nil => exact Nat.le_refl _
        | cons x r ih =>
          rw [dedV, List.length_cons, List.length_cons]
          exact Nat.succ_le_succ (Nat.le_trans (List.length_filter_le _ _) ih)
      exact Nat.le_trans (key xs) h.2
  · rw [Bool.and_eq_true, Bool.and_eq_true, decide_eq_true_eq] at h
    refine ⟨h.1.2, fun x hx => ?_, h.2⟩
    obtain ⟨y, r, k, _, e, _⟩ := Val.row_inv (List.all_eq_true.mp h.1.1 x hx)
    rw [e]
    rfl

section
variable {P : Program} {w : World} {A : Around} {E : Value → Shared → Prop} {s : Shared}
theorem fill_any {l : Addr} {items : Array Value} {Rel : Nat → Heap → Prop} {Q : Value → Shared → Prop} (hh : A.handled = none) (hl : s.heap.IsList l items ∨ s.heap.IsTuple l items)
    (Fl : Fills P w A.in1.in1.in1 s.heap.objs.size items [s.heap.objs.size + 1] Rel) (h0 : ∀ h', (∀ b o, s.heap.get? b = some o → h'.get? b = some o) → h'.get? s.heap.objs.size = some (freshSet w) → Rel 0 h')
    (h : ∀ (h' : Heap) (tk : Nat), Rel items.size h' → (∀ b o, s.heap.get? b = some o → h'.get? b = some o) → Q (.ref s.heap.objs.size) { s with heap := h', toks := tk }) :
    wpAny (model P w) A (call (.type "set") [.ref l]) Q E s := by
  rcases hl with hl | hl
  · exact fill_list hh hl Fl h0 h
  · exact fill_tuple hh hl Fl h0 h
/-- ints -/
theorem set_ints {l : Addr} {items : Array Value} (ns : List Int) {Q : Value → Shared → Prop} (hh : A.handled = none) (hl : s.heap.IsList l items ∨ s.heap.IsTuple l items) (hi : IntsAre items.toList ns) (hb : ns.length ≤ 4000)
    (h : ∀ (h' : Heap) (tk c : Nat), SetR w h' s.heap.objs.size (fun j => decide (j ∈ ns)) c → (∀ b o, s.heap.get? b = some o → h'.get? b = some o) → Q (.ref s.heap.objs.size) { s with heap := h', toks := tk }) :
    wpAny (model P w) A (call (.type "set") [.ref l]) Q E s := by
  have hz : items.size = ns.length := by
    have := IntsAre.length hi
    rwa [Array.length_toList] at this
  refine fill_any (Rel := fun i h => ∃ c, c ≤ i ∧ SetR w h s.heap.objs.size (fun j => decide (j ∈ ns.take i)) c) hh hl ⟨fun i h1 h2 ⟨c, hc, R⟩ k => ⟨c, hc, R.at fun o e => k _ o (fun z => ?_) e⟩, fun i v E s1 Q1 hv ⟨c, hc, R⟩ post => ?_⟩ (fun h1 k e => ⟨0, Nat.le_refl _, setR_new_at e⟩) fun h1 tk ⟨c, hc, R⟩ k => h h1 tk c ?_ k
  · rw [List.mem_singleton] at z
    exact absurd z (Nat.ne_of_lt (Nat.lt_succ_self _))
  · have hil : i < ns.length := by rw [← hz]; exact (Array.getElem?_eq_some_iff.mp hv).1
    obtain ⟨t, e⟩ := IntsAre.int_at hi i v (by rw [Array.getElem?_toList]; exact hv)
    obtain ⟨z, hzz⟩ : ∃ z, ns[i]? = some z := ⟨_, List.getElem?_eq_getElem hil⟩
    rw [List.getD_eq_getElem?_getD, hzz] at e
    obtain rfl : v = .int z t := e
    unfold setAdd
    refine wpAny_holding ?_
    refine wpAny_bind ((intKind P w).pyHash (intKind_is P w z t) ?_)
    refine setR_add_hashed (s := { s1 with toks := s1.toks + 1 }) R (by unfold scanBound; omega) fun h2 sb R2 => post _ h2 _ sb (Nat.le_succ _) ⟨_, ?_, R2.congr fun j => ?_⟩
    · split <;> omega
    · rw [List.take_add_one, hzz]
      simp [List.mem_append]
  · rw [hz, List.take_length] at R
    exact R

theorem nodup_le {α : Type} [DecidableEq α] : ∀ (l D : List α), l.Nodup → (∀ x ∈ l, x ∈ D) → l.length ≤ D.length
  | [], _, _, _ => Nat.zero_le _
  | x :: l, D, hn, hs => by
    obtain ⟨h1, h2⟩ := List.nodup_cons.mp hn
    have hx : x ∈ D := hs x List.mem_cons_self
    have ih := nodup_le l (D.erase x) h2 fun y hy => (List.mem_erase_of_ne fun e => h1 (by rw [← e]; exact hy)).mpr (hs y (List.mem_cons_of_mem _ hy))
    have := List.length_erase_of_mem hx
    have := List.length_pos_of_mem hx
    rw [List.length_cons]
    omega
/-- what a set of tuples has got from the first i -/
structure GotN (ks : List (Addr × NestedKey)) (i : Nat) (L : List (Addr × NestedKey)) : Prop where
  sub : ∀ p ∈ L, p ∈ ks.take i
  all : ∀ p ∈ ks.take i, p.2 ∈ L.map (·.2)
theorem set_tups {l : Addr} {items : Array Value} (ks : List (Addr × NestedKey)) (D : List NestedKey) {Q : Value → Shared → Prop} (hh : A.handled = none) (hu : A.units + 11 < cLine) (hl : s.heap.IsList l items ∨ s.heap.IsTuple l items)
    (hi : items.toList = ks.map fun p => Value.ref p.1) (hk : ∀ p ∈ ks, IsN s.heap p.2 p.1) (hD : ∀ p ∈ ks, p.2 ∈ D) (hb : D.length ≤ 4000)
    (h : ∀ (h' : Heap) (tk : Nat) L es ep t, SetN w h' s.heap.objs.size L es ep t → GotN ks ks.length L → (∀ b o, s.heap.get? b = some o → h'.get? b = some o) → Q (.ref s.heap.objs.size) { s with heap := h', toks := tk }) :
    wpAny (model P w) A (call (.type "set") [.ref l]) Q E s := by
  have hz : items.size = ks.length := by
    have := congrArg List.length hi
    rwa [Array.length_toList, List.length_map] at this
  have none_of : ∀ b, s.heap.objs.size ≤ b → s.heap.get? b = none := fun b hb => by
    cases q : s.heap.get? b with
    | none => rfl
    | some o => exact absurd (Nat.lt_of_lt_of_le (Heap.lt_size q) hb) (Nat.lt_irrefl _)
  have later : ∀ {h1 h2 : Heap} {L es ep t}, SetN w h1 s.heap.objs.size L es ep t → (∀ o, h1.get? s.heap.objs.size = some o → h2.get? s.heap.objs.size = some o) → (∀ b o, s.heap.get? b = some o → h2.get? b = some o) → (∀ p ∈ L, p ∈ ks) → SetN w h2 s.heap.objs.size L es ep t := fun {h1 h2 L es ep t} R e k sub => by
    obtain ⟨o, ho, r⟩ := R.ob
    exact ⟨⟨o, e o ho, r⟩, R.rows, R.tab, R.nd, fun p hp => isN_keep (hk p (sub p hp)) k, R.led, R.room⟩
  refine fill_any (Rel := fun i h1 => (∀ b o, s.heap.get? b = some o → h1.get? b = some o) ∧ ∃ L es ep t, SetN w h1 s.heap.objs.size L es ep t ∧ GotN ks i L) hh hl
    ⟨fun i h1 h2 ⟨k1, L, es, ep, t, R, g⟩ k => ?_, fun i v E s1 Q1 hv ⟨k1, L, es, ep, t, R, g⟩ post => ?_⟩ (fun h1 k e => ⟨k, [], #[], 0, _, ⟨⟨_, e, ⟨rfl, rfl, rfl⟩, rfl⟩, rfl, ⟨List.Pairwise.nil, rfl, rfl, ⟨3, by decide, by decide, rfl⟩, fun x hx => (by cases hx), fun i h j hi => (by simp [hashesN] at hi)⟩, List.nodup_nil, fun p hp => (by cases hp), ?_, (show 0 * 5 < 7 * 3 by decide)⟩, fun p hp => (by cases hp), fun p hp => (by simp at hp)⟩)
    fun h1 tk ⟨k1, L, es, ep, t, R, g⟩ k => h h1 tk L es ep t R (by rw [hz] at g; exact g) k
  · have nw : ∀ b o, s.heap.get? b = some o → b ∉ [s.heap.objs.size + 1] := fun b o e z => by
      rw [List.mem_singleton] at z
      rw [z, none_of _ (Nat.le_succ _)] at e
      cases e
    have k2 : ∀ b o, s.heap.get? b = some o → h2.get? b = some o := fun b o e => k b o (nw b o e) (k1 b o e)
    refine ⟨k2, L, es, ep, t, later R (fun o e => k _ o (fun z => ?_) e) k2 fun p hp => List.mem_of_mem_take (g.sub p hp), g⟩
    rw [List.mem_singleton] at z
    exact absurd z (Nat.ne_of_lt (Nat.lt_succ_self _))
  · have hil : i < ks.length := by rw [← hz]; exact (Array.getElem?_eq_some_iff.mp hv).1
    have e1 : items.toList[i]? = some v := by rw [Array.getElem?_toList]; exact hv
    rw [hi, List.getElem?_map, List.getElem?_eq_getElem hil] at e1
    obtain ⟨p, hp⟩ : ∃ p, ks[i] = p := ⟨_, rfl⟩
    rw [hp] at e1
    cases e1
    have hpm : p ∈ ks := by rw [← hp]; exact List.getElem_mem hil
    have tk1 : ks.take (i + 1) = ks.take i ++ [p] := by rw [List.take_add_one, List.getElem?_eq_getElem hil, hp]; rfl
    have hx : IsN s1.heap p.2 p.1 := isN_keep (hk p hpm) k1
    have few : L.length ≤ D.length := by
      have := nodup_le (L.map (·.2)) D R.nd fun x hx => by
        obtain ⟨q, hq, rfl⟩ := List.mem_map.mp hx
        exact hD q (List.mem_of_mem_take (g.sub q hq))
      rwa [List.length_map] at this
    have hu3 : A.in1.in1.in1.units + 8 < cLine := by
      have e : A.in1.in1.in1.units = A.units + 3 := rfl
      omega
    unfold setAdd
    refine wpAny_holding ?_
    refine wpAny_bind ((nestedKind P w).pyHash (k := p.2) (a := p.1) hu3 hx ?_)
    refine add_set (s := { s1 with toks := s1.toks + p.2.draws }) R hx hu3 (by omega) fun b h2 L2 es2 ep2 t2 sb R2 c1 c2 => post b h2 _ sb (Nat.le_add_right _ _) ⟨fun c o e => (sb.2 c fun z => ?_).trans (k1 c o e), L2, es2, ep2, t2, R2, ?_, ?_⟩
    · rw [z, none_of _ (Nat.le_refl _)] at e
      cases e
    · intro q hq
      rw [tk1]
      rcases Classical.em (p.2 ∈ L.map (·.2)) with c | c
      · rw [c1 c] at hq
        exact List.mem_append_left _ (g.sub q hq)
      · rcases List.mem_cons.mp ((c2 c).mem_iff.mp hq) with z | z
        · rw [z]; exact List.mem_append_right _ List.mem_cons_self
        · exact List.mem_append_left _ (g.sub q z)
    · intro q hq
      rw [tk1, List.mem_append, List.mem_singleton] at hq
      rcases Classical.em (p.2 ∈ L.map (·.2)) with c | c
      · rw [c1 c]
        rcases hq with z | rfl
        · exact g.all q z
        · exact c
      · rw [((c2 c).map (·.2)).mem_iff, List.map_cons]
        rcases hq with z | rfl
        · exact List.mem_cons_of_mem _ (g.all q z)
        · exact List.mem_cons_self
  · show _ ∨ (!w.params.followText "set-order") = true
    cases w.params.followText "set-order"
    · exact .inr rfl
    · exact .inl rfl
end
end MV
end

section
set_option maxHeartbeats 4000000
/-! sorted(set(xs)), sorted(xs): the rules by content -/
namespace MV
open PySem PySem.Spec PyProof.Rows L2

mutual
theorem pure_of_key : ∀ (x : Val) (k : NestedKey), x.nkey = some k → x.pure = true
  | .non, _, _ => rfl
  | .bl _, _, _ => rfl
  | .int _, _, _ => rfl
  | .str _, _, _ => rfl
  | .tup xs, k, h => by
    simp only [Val.nkey, Option.map_eq_some_iff] at h
    obtain ⟨ks, e, _⟩ := h
    simp only [Val.pure]
    exact pureL_of_keys xs ks e
  | .lst _ _, _, h => by simp [Val.nkey] at h
  | .dct _ _ _ _, _, h => by simp [Val.nkey] at h
  | .scr _, _, h => by simp [Val.nkey] at h
theorem pureL_of_keys : ∀ (xs : List Val) (ks : List NestedKey), nkeyL xs = some ks → pureL xs = true
  | [], _, _ => rfl
  | x :: xs, ks, h => by
    simp only [nkeyL] at h
    split at h
    · rename_i k l e1 e2
      rw [pureL, pure_of_key x k e1, pureL_of_keys xs l e2]
      rfl
    · cases h
end
/-- set(xs) -/
def rSetV (P : Program) (w : World) (K : PySem.W.Frag) : List V → Hp → VK → Prop := fun vs H Q => ∃ F a ws xs, vs = [V.ref a] ∧ (SqL K H a ws ∨ SqT K H a ws) ∧ VRs P w K F H ws xs [] ∧ setOk xs = true ∧
  ∀ p us ys, H p = none → VRs P w K F H us ys [] → ys.Perm (dedV xs) → Q (.ref p) (upd H p (SetHO w p us))
section
variable {X : Cx} {F : Addr → Prop} {H : Hp}
theorem VRs.ints : ∀ (ns : List Int), VRs X.prog X.w X.K F H (ns.map V.int) (ns.map Val.int) []
  | [] => .nil
  | i :: r => .cons (.int i) (VRs.ints r)
theorem VRs.ints_inv {ws : List V} : ∀ {ns : List Int} {ws : List V} {L : List Addr}, VRs X.prog X.w X.K F H ws (ns.map Val.int) L → ws = ns.map V.int
  | [], _, _, h => by cases h; rfl
  | i :: r, _, _, h => by
    cases h with
    | cons h t =>
      cases h
      rw [VRs.ints_inv (ws := []) t]
      rfl
/-- the keys of a list of rows -/
theorem VRs.rows : ∀ {ws : List V} {xs : List Val} {L : List Addr}, VRs X.prog X.w X.K F H ws xs L → (∀ x ∈ xs, x.row = true) → ∃ ks : List (Addr × NestedKey), ws = ks.map (fun p => V.ref p.1) ∧ xs.map Val.nkey = ks.map (fun p => some p.2)
  | _, _, _, .nil, _ => ⟨[], rfl, rfl⟩
  | _, _, _, .cons (xs := xs) h t, hr => by
    obtain ⟨y, r, k, rfl, ek, _⟩ := Val.row_inv (hr _ List.mem_cons_self)
    obtain ⟨ks, e1, e2⟩ := VRs.rows t fun x hx => hr x (List.mem_cons_of_mem _ hx)
    cases h with
    | @tup a vs _ _ hA hs => exact ⟨(a, k) :: ks, by rw [e1]; rfl, by rw [List.map_cons, ek, e2]; rfl⟩
theorem vrs_pick {ws : List V} {xs : List Val} {ks : List (Addr × NestedKey)} (h : VRs X.prog X.w X.K F H ws xs []) (e1 : ws = ks.map fun p => V.ref p.1) (e2 : xs.map Val.nkey = ks.map fun p => some p.2) :
    ∀ (L : List (Addr × NestedKey)), (∀ p ∈ L, p ∈ ks) → ∃ ys, VRs X.prog X.w X.K F H (L.map fun p => V.ref p.1) ys [] ∧ ys.map Val.nkey = L.map (fun p => some p.2) ∧ ∀ y ∈ ys, y ∈ xs
  | [], _ => ⟨[], .nil, rfl, fun y hy => (by cases hy)⟩
  | p :: L, hs => by
    obtain ⟨ys, h1, h2, h3⟩ := vrs_pick h e1 e2 L fun q hq => hs q (List.mem_cons_of_mem _ hq)
    obtain ⟨i, hi, ei⟩ := List.getElem_of_mem (hs p List.mem_cons_self)
    have ei' : ks[i]? = some p := by rw [List.getElem?_eq_getElem hi, ei]
    have w1 : ws[i]? = some (V.ref p.1) := by rw [e1, List.getElem?_map, ei']; rfl
    have x1 : (xs[i]?).map Val.nkey = some (some p.2) := by rw [← List.getElem?_map, e2, List.getElem?_map, ei']; rfl
    obtain ⟨x, hx, ex⟩ := Option.map_eq_some_iff.mp x1
    refine ⟨x :: ys, .cons (h.get' w1 hx) h1, by rw [List.map_cons, ex, h2]; rfl, fun y hy => ?_⟩
    rcases List.mem_cons.mp hy with rfl | hy
    · exact List.mem_of_getElem? hx
    · exact h3 y hy
end
section
variable {X : Cx}
theorem refs_raw : ∀ {ks : List (Addr × NestedKey)} {us : List Value}, Vals (ks.map fun p => V.ref p.1) us → us = ks.map fun p => Value.ref p.1
  | [], _, .nil => rfl
  | p :: ks, _, .cons r t => by
    cases r
    rw [refs_raw t]
    rfl
theorem refs_vals : ∀ (ks : List (Addr × NestedKey)), Vals (ks.map fun p => V.ref p.1) (ks.map fun p => Value.ref p.1)
  | [] => .nil
  | p :: ks => .cons rfl (refs_vals ks)
theorem good_vals : ∀ (es : List (Int × Value)), (∀ e ∈ es, GoodE e) → Vals ((es.map keyOf).map V.int) (es.map (·.2))
  | [], _ => .nil
  | e :: es, h => by
    refine .cons ?_ (good_vals es fun x hx => h x (List.mem_cons_of_mem _ hx))
    obtain ⟨k, tk, e1, _⟩ := h e List.mem_cons_self
    have ek : keyOf e = k := by rw [keyOf, e1]
    rw [ek]
    exact ⟨tk, e1⟩
theorem cr_set (hc : X.calm = true) (hu : X.A.units + 65 < cLine) : CallR X (.type "set") (rSetV X.prog X.w X.K) := by
  intro pins s σ H vs us Q I r ⟨F, l, ws, xs, e, hl, hws, ok, post⟩
  subst e
  rw [Vals.ref1 r]
  have keys := setOk_keys ok
  have hn : H s.heap.objs.size = none := I.hok.fresh (Nat.le_refl _)
  obtain ⟨its, rv, src⟩ : ∃ its : List Value, Vals ws its ∧ (s.heap.IsList l its.toArray ∨ s.heap.IsTuple l its.toArray) := by
    rcases hl with hl | hl
    · obtain ⟨its, rv, pl, _⟩ := I.list hl
      exact ⟨its, rv, .inl pl.isList⟩
    · obtain ⟨its, rv, pl, _⟩ := I.tuple hl
      exact ⟨its, rv, .inr pl⟩
  have ok' := ok
  unfold setOk at ok'
  rw [Bool.or_eq_true] at ok'
  have done : ∀ (h' : Heap) (tk : Nat) (us : List V) (ys : List Val), SetIs X.w h' s.heap.objs.size us → (∀ b o, s.heap.get? b = some o → h'.get? b = some o) → VRs X.prog X.w X.K F H us ys [] → (ys.map Val.nkey).Nodup → (∀ y ∈ ys, y ∈ xs) →
      (∀ x ∈ xs, x.nkey ∈ ys.map Val.nkey) → EP X pins σ Q (.ref s.heap.objs.size) { s with heap := h', toks := tk } := fun h' tk us ys R k hv n1 n2 n3 =>
    ⟨.ref s.heap.objs.size, _, I.laid (t' := tk) k (Nat.le_refl _) (setHO_new R), rfl, post _ us ys hn hv (same_keys keys.1 keys.2.1 n1 n2 n3)⟩
  rcases ok' with c | c
  · rw [Bool.and_eq_true, decide_eq_true_eq] at c
    obtain ⟨ns, en⟩ := Option.isSome_iff_exists.mp c.1
    have hx := intsOfV_eq en
    subst hx
    have hwi := VRs.ints_inv (ws := []) hws
    subst hwi
    rw [List.length_map] at c
    refine set_ints ns (I.ok.hd hc) src (by simpa using rv.ints) c.2 fun h' tk n R k => ?_
    obtain ⟨o, es, ep, t, ho, hex, hd, hg, nd, hm, hb, hf, _, ris, led⟩ := R
    refine done h' tk _ ((es.toList.map keyOf).map Val.int) ⟨o, es, ep, t, ho, hex.1, hd, hf, hb, ris, led, good_vals es.toList hg⟩ k (VRs.ints _) ?_ (fun y hy => ?_) fun x hx => ?_
    · rw [List.map_map]
      refine List.pairwise_map.mpr (nd.imp fun {a b} hne z => hne ?_)
      simp only [Function.comp, Val.nkey, Option.some.injEq, NestedKey.num.injEq] at z
      exact z
    · obtain ⟨j, hj, rfl⟩ := List.mem_map.mp hy
      exact List.mem_map.mpr ⟨j, of_decide_eq_true ((hm j).mpr hj), rfl⟩
    · obtain ⟨j, hj, rfl⟩ := List.mem_map.mp hx
      exact List.mem_map.mpr ⟨.int j, List.mem_map.mpr ⟨j, (hm j).mp (decide_eq_true hj), rfl⟩, rfl⟩
  · rw [Bool.and_eq_true, Bool.and_eq_true, decide_eq_true_eq] at c
    have rows : ∀ x ∈ xs, x.row = true := fun x hx => List.all_eq_true.mp c.1.1 x hx
    obtain ⟨ks, e1, e2⟩ := hws.rows rows
    have inKs : ∀ p ∈ ks, ∃ x ∈ xs, VR X.prog X.w X.K F H (.ref p.1) x [] ∧ x.nkey = some p.2 := fun p hp => by
      obtain ⟨ys, h1, h2, h3⟩ := vrs_pick hws e1 e2 [p] fun q hq => by rw [List.mem_singleton.mp hq]; exact hp
      obtain ⟨v, ev, h4⟩ : ∃ y, ys = [y] ∧ y.nkey = some p.2 := by
        cases ys with
        | nil => simp at h2
        | cons y r =>
          cases r with
          | nil => simp at h2; exact ⟨y, rfl, h2⟩
          | cons _ _ => simp at h2
      subst ev
      obtain ⟨u, eu, h⟩ := h1.inv1
      cases eu
      exact ⟨v, h3 v List.mem_cons_self, h, h4⟩
    have e1' := e1
    subst e1'
    refine set_tups ks ((dedV xs).filterMap Val.nkey) (I.ok.hd hc) (by omega) src (refs_raw rv) (fun p hp => ?_) (fun p hp => ?_) (Nat.le_trans (List.length_filterMap_le _ _) c.2) fun h' tk L es ep t R g k => ?_
    · obtain ⟨x, hx, h1, h2⟩ := inKs p hp
      obtain ⟨_, _, k, _, ek, dk, _⟩ := Val.row_inv (rows x hx)
      obtain rfl : k = p.2 := Option.some.inj (ek.symm.trans h2)
      exact ⟨h1.key I h2 rfl, dk⟩
    · obtain ⟨x, hx, h1, h2⟩ := inKs p hp
      obtain ⟨y, hy, ey⟩ := dedV_all xs x hx
      exact List.mem_filterMap.mpr ⟨y, hy, ey.trans h2⟩
    · have sub : ∀ p ∈ L, p ∈ ks := fun p hp => List.mem_of_mem_take (g.sub p hp)
      obtain ⟨ys, v1, v2, v3⟩ := vrs_pick hws e1 e2 L sub
      obtain ⟨o, ho, hex, hd⟩ := R.ob
      have hlen : L.length ≤ 4000 := by
        have := nodup_le (L.map (·.2)) ((dedV xs).filterMap Val.nkey) R.nd fun z hz => by
          obtain ⟨q, hq, rfl⟩ := List.mem_map.mp hz
          obtain ⟨x, hx, h1, h2⟩ := inKs q (sub q hq)
          obtain ⟨y, hy, ey⟩ := dedV_all xs x hx
          exact List.mem_filterMap.mpr ⟨y, hy, ey.trans h2⟩
        rw [List.length_map] at this
        exact Nat.le_trans this (Nat.le_trans (List.length_filterMap_le _ _) c.2)
      refine done h' tk _ ys ⟨o, es, ep, t, ho, hex.1, hd, R.fits (s := { s with heap := h' }), ?_, R.tab.ris, R.led, ?_⟩ k v1 ?_ v3 fun x hx => ?_
      · rw [R.size (s := { s with heap := h' })]
        unfold scanBound
        omega
      · rw [R.rows, rowsN, List.map_map]
        exact refs_vals L
      · rw [v2]
        refine List.pairwise_map.mpr ((List.pairwise_map.mp R.nd).imp fun {a b} hne z => hne (Option.some.inj z))
      · have hx' : x.nkey ∈ xs.map Val.nkey := List.mem_map.mpr ⟨x, hx, rfl⟩
        rw [e2] at hx'
        obtain ⟨p, hp, ep2⟩ := List.mem_map.mp hx'
        have := g.all p (by rw [List.take_length]; exact hp)
        obtain ⟨q, hq, eq2⟩ := List.mem_map.mp this
        rw [v2, ← ep2]
        exact List.mem_map.mpr ⟨q, hq, by rw [eq2]⟩
end

/-! sorted -/
section
open PySem.W (EachIs)
theorem each_perm {α β : Type} {R : α → β → Prop} {as as' : List α} (p : as'.Perm as) : ∀ {bs : List β}, EachIs R as bs → ∃ bs', bs'.Perm bs ∧ EachIs R as' bs' := by
  induction p with
  | nil => intro bs h; cases h; exact ⟨[], List.Perm.refl _, .nil⟩
  | cons x _ ih =>
    intro bs h
    cases h with
    | cons h t =>
      obtain ⟨bs', p', h'⟩ := ih t
      exact ⟨_ :: bs', p'.cons _, .cons h h'⟩
  | swap x y l =>
    intro bs h
    cases h with
    | cons h t =>
      cases t with
      | cons h2 t => exact ⟨_, List.Perm.swap _ _ _, .cons h2 (.cons h t)⟩
  | trans _ _ i1 i2 =>
    intro bs h
    obtain ⟨b1, p1, h1⟩ := i2 h
    obtain ⟨b2, p2, h2⟩ := i1 h1
    exact ⟨b2, p2.trans p1, h2⟩
/-- what can be sorted here -/
def sortOk (xs : List Val) : Bool := alikeL xs && xs.all (fun x => decide (x.toD.depth ≤ 8) && x.toD.canLay0) && ((xs.all fun x => match x with | .tup (_ :: _) => true | _ => false) || xs.all fun x => match x with | .int _ => true | .str _ => true | .bl _ => true | _ => false)
theorem sortOk_inv {xs : List Val} (h : sortOk xs = true) : alikeL xs = true ∧ (∀ x ∈ xs, x.toD.depth ≤ 8 ∧ x.toD.canLay0 = true) ∧ PySem.W.Sortable (xs.map Val.toD) := by
  unfold sortOk at h
  rw [Bool.and_eq_true, Bool.and_eq_true, Bool.or_eq_true] at h
  refine ⟨h.1.1, fun x hx => ?_, ?_⟩
  · have := List.all_eq_true.mp h.1.2 x hx
    rwa [Bool.and_eq_true, decide_eq_true_eq] at this
  · rcases h.2 with c | c
    · refine .inl fun d hd => ?_
      obtain ⟨x, hx, rfl⟩ := List.mem_map.mp hd
      have := List.all_eq_true.mp c x hx
      split at this
      · exact ⟨_, _, (by simp only [Val.toD, toDL]; rfl)⟩
      · cases this
    · refine .inr fun d hd => ?_
      obtain ⟨x, hx, rfl⟩ := List.mem_map.mp hd
      have := List.all_eq_true.mp c x hx
      split at this
      · exact ⟨fun z => (by simp [Val.toD] at z), fun _ z => (by simp [Val.toD] at z)⟩
      · exact ⟨fun z => (by simp [Val.toD] at z), fun _ z => (by simp [Val.toD] at z)⟩
      · exact ⟨fun z => (by simp [Val.toD] at z), fun _ z => (by simp [Val.toD] at z)⟩
      · cases this
theorem alikeL_sub {xs ys : List Val} (ha : alikeL xs = true) (h : ∀ y ∈ ys, y ∈ xs) : alikeL ys = true := alikeL_perm ha h
/-- a Value that stands for a pair -/
def PairIs (P : Program) (w : World) (K : PySem.W.Frag) (F : Addr → Prop) (H : Hp) (u : Value) (b : V × Val) : Prop := RelV b.1 u ∧ VR P w K F H b.1 b.2 []
theorem VRs.cons_inv {P : Program} {w : World} {K : PySem.W.Frag} {F : Addr → Prop} {H : Hp} {vs : List V} {x : Val} {xs : List Val} {L : List Addr} (h : VRs P w K F H vs (x :: xs) L) : ∃ v vs' L1 L2, vs = v :: vs' ∧ VR P w K F H v x L1 ∧ VRs P w K F H vs' xs L2 ∧ L = L1 ++ L2 := by
  cases h with
  | cons h t => exact ⟨_, _, _, _, rfl, h, t, rfl⟩
theorem pairs_of {P : Program} {w : World} {K : PySem.W.Frag} {F : Addr → Prop} {H : Hp} : ∀ {xs : List Val} {vs : List V} {us : List Value}, VRs P w K F H vs xs [] → Vals vs us → EachIs (PairIs P w K F H) us (vs.zip xs)
  | [], vs, us, h, r => by cases h; cases r; exact .nil
  | x :: xs, vs, us, h, r => by
    obtain ⟨v, vs', L1, L2, rfl, h1, h2, e⟩ := h.cons_inv
    obtain ⟨rfl, rfl⟩ := List.append_eq_nil_iff.mp e.symm
    cases r with
    | cons r1 r2 => exact .cons ⟨r1, h1⟩ (pairs_of h2 r2)
theorem of_pairs {P : Program} {w : World} {K : PySem.W.Frag} {F : Addr → Prop} {H : Hp} : ∀ {us : List Value} {bs : List (V × Val)}, EachIs (PairIs P w K F H) us bs → VRs P w K F H (bs.map (·.1)) (bs.map (·.2)) [] ∧ Vals (bs.map (·.1)) us
  | _, _, .nil => ⟨.nil, .nil⟩
  | _, _, .cons h t => by
    obtain ⟨h1, h2⟩ := of_pairs t
    exact ⟨.cons h.2 h1, .cons h.1 h2⟩
theorem zip_snd : ∀ {vs : List V} {xs : List Val}, vs.length = xs.length → (vs.zip xs).map (·.2) = xs := fun {vs xs} h => List.map_snd_zip (by omega)
theorem sort_snd (bs : List (V × Val)) : (bs.mergeSort (PySem.W.dataLe false fun b : V × Val => b.2.toD)).map (·.2) = (bs.map (·.2)).mergeSort leB :=
  PySem.W.sort_maps (fun b : V × Val => b.2) fun a _ b _ => rfl
end
end MV
end

section
set_option maxHeartbeats 4000000
/-! sorted(set(xs)), sorted(xs) in expressions -/
namespace MV
open PySem PySem.Spec PyProof.Rows L2
open PySem.W (EachIs)

theorem depthAll_le {n : Nat} : ∀ {xs : List Val}, (∀ x ∈ xs, x.toD.depth ≤ n) → PyData.depthAll (toDL xs) ≤ n
  | [], _ => by simp [toDL, PyData.depthAll]
  | x :: xs, h => by
    simp only [toDL, PyData.depthAll]
    exact Nat.max_le.mpr ⟨h x List.mem_cons_self, depthAll_le fun y hy => h y (List.mem_cons_of_mem _ hy)⟩
theorem setOk_sort {xs : List Val} (h : setOk xs = true) : sortOk (dedV xs) = true := by
  have keys := setOk_keys h
  unfold sortOk
  rw [Bool.and_eq_true, Bool.and_eq_true, Bool.or_eq_true]
  refine ⟨⟨alikeL_sub keys.1 (dedV_sub xs), ?_⟩, ?_⟩
  · refine List.all_eq_true.mpr fun x hx => ?_
    have hx := dedV_sub xs x hx
    unfold setOk at h
    rw [Bool.or_eq_true] at h
    rw [Bool.and_eq_true, decide_eq_true_eq]
    rcases h with h | h
    · rw [Bool.and_eq_true, decide_eq_true_eq] at h
      obtain ⟨ns, e⟩ := Option.isSome_iff_exists.mp h.1
      rw [intsOfV_eq e] at hx
      obtain ⟨i, _, rfl⟩ := List.mem_map.mp hx
      exact ⟨by simp [Val.toD, PyData.depth], by simp [Val.toD, PyData.canLay0]⟩
    · rw [Bool.and_eq_true, Bool.and_eq_true] at h
      obtain ⟨_, _, _, _, _, _, h1, h2⟩ := Val.row_inv (List.all_eq_true.mp h.1.1 x hx)
      exact ⟨h1, h2⟩
  · unfold setOk at h
    rw [Bool.or_eq_true] at h
    rcases h with h | h
    · right
      rw [Bool.and_eq_true, decide_eq_true_eq] at h
      obtain ⟨ns, e⟩ := Option.isSome_iff_exists.mp h.1
      refine List.all_eq_true.mpr fun x hx => ?_
      have hx := dedV_sub xs x hx
      rw [intsOfV_eq e] at hx
      obtain ⟨i, _, rfl⟩ := List.mem_map.mp hx
      rfl
    · left
      rw [Bool.and_eq_true, Bool.and_eq_true] at h
      refine List.all_eq_true.mpr fun x hx => ?_
      obtain ⟨y, r, _, rfl, _⟩ := Val.row_inv (List.all_eq_true.mp h.1.1 x (dedV_sub xs x hx))
      rfl
section
variable {X : Cx}
theorem reads_each {pins : List (Addr × Obj)} {σ : S2} {H : Hp} {s : Shared} {F : Addr → Prop} (I : L2.Inv X pins σ H s) : ∀ {us : List Value} {bs : List (V × Val)}, EachIs (PairIs X.prog X.w X.K F H) us bs → (∀ b ∈ bs, b.2.toD.canLay0 = true) →
    EachIs (fun v b => ∃ as, Reads s.heap v b.2.toD as) us bs
  | _, _, .nil, _ => .nil
  | _, _, .cons h t, c => .cons (Dp.reads I _ _ _ (h.2.dp (c _ List.mem_cons_self)) h.1) (reads_each I t fun b hb => c b (List.mem_cons_of_mem _ hb))
theorem each_map_mem {α β : Type} {R : α → β → Prop} : ∀ {as : List α} {bs : List β}, EachIs R as bs → as.length = bs.length := fun h => h.length
/-- sorted(s), s a set that is only walked -/
def rSortS (P : Program) (w : World) (K : PySem.W.Frag) : List V → Hp → VK → Prop := fun vs H Q => ∃ F p us ys, vs = [V.ref p] ∧ H p = some (SetHO w p us) ∧ VRs P w K F H us ys [] ∧ sortOk ys = true ∧ (∀ y ∈ ys, (y.nkey).isSome = true) ∧
  ∀ p' ws, H p' = none → VRs P w K F H ws (ys.mergeSort leB) [] → Q (.ref p') (upd H p' (.lst ws))
theorem cr_sortS (hc : X.calm = true) (hu : X.A.units + 65 < cLine) : CallR X (.builtin "sorted") (rSortS X.prog X.w X.K) := by
  intro pins s σ H vs us Q I r ⟨F, p, vs', ys, e, hp, hv, ok, hk, post⟩
  subst e
  rw [Vals.ref1 r]
  obtain ⟨al, dep, able⟩ := sortOk_inv ok
  obtain ⟨o, es, ep, t, ho, hcl, hd, hf, hb, ris, led, rv⟩ : SetIs X.w s.heap p vs' := (I.hok p _ hp).1
  have each := pairs_of hv rv
  refine Calls.call_function_entry kind_sorted plain_sorted entry_sorted (args_sorted1 _) ?_
  unfold Builtin.«sorted»
  refine wpAny_bind (m := checkCount "sorted" 1 1 _) (wpAny_pure ?_)
  refine wpAny_bind (collect_set (A := X.A.in1) (I.ok.hd hc) ⟨o, ho, hcl, hd⟩ hf hb ris led fun s1 out k1 hz g1 o1 pm => ?_)
  obtain ⟨bs, pb, each1⟩ := each_perm pm each
  have hlen : vs'.length = ys.length := hv.length
  have snd : (vs'.zip ys).map (·.2) = ys := zip_snd hlen
  have bsnd : (bs.map (·.2)).Perm ys := by rw [← snd]; exact pb.map _
  have inYs : ∀ b ∈ bs, b.2 ∈ ys := fun b hb => bsnd.mem_iff.mp (List.mem_map.mpr ⟨b, hb, rfl⟩)
  have olen : out.length ≤ 4096 := by
    rw [pm.length_eq, List.length_map, Array.length_toList]
    exact Nat.le_of_lt hb
  have blen : bs.length ≤ 4096 := by rw [← each1.length]; exact olen
  refine wpAny_bind (wpAny_newList ?_ (by rw [sizeLine_eq]; omega))
  have hoL : (s1.heap.push (seqObj "list" out.toArray 0)).get? s1.heap.objs.size = some (seqObj "list" out.toArray 0) := Heap.get?_push_size _ rfl
  have map2 : bs.map (fun b => b.2.toD) = (bs.map (·.2)).map Val.toD := by rw [List.map_map]; rfl
  have al2 : PySem.W.AllAlike (bs.map fun b => b.2.toD) := by rw [map2]; exact alikeL_all (alikeL_sub al fun y hy => bsnd.mem_iff.mp hy)
  have able2 : PySem.W.Sortable (bs.map fun b => b.2.toD) := by
    have hm : ∀ d ∈ bs.map (fun b => b.2.toD), d ∈ ys.map Val.toD := fun d hd => by
      obtain ⟨b, hb, rfl⟩ := List.mem_map.mp hd
      exact List.mem_map.mpr ⟨b.2, inYs b hb, rfl⟩
    exact able.imp (fun h d hd => h d (hm d hd)) fun h d hd => h d (hm d hd)
  have reads0 := reads_each I each1 fun b hb => (dep _ (inYs b hb)).2
  have reads1 : EachIs (fun v b => ∃ as, Reads (PySem.W.sortingHeap (s1.heap.push (seqObj "list" out.toArray 0)) s1.heap.objs.size out) v b.2.toD as) out bs :=
    reads0.mono fun v b ⟨as, r⟩ => ⟨as, PyProof.Rows.Reads.keeps (fun c u e => by
      have e1 := k1 c u e
      exact PySem.W.sortingHeap_old (Nat.ne_of_lt (Heap.lt_size e1)) (Heap.get?_push_of_some _ e1)) r⟩
  refine wpAny_bind (wpAny_holding (wpAny_call_entry slot_list_sort ⟨_, hoL, rfl⟩ entry_list_sort (PySem.W.list_sort_vals (κ := PySem.W.dataKind (PySem.W.sortingHeap (s1.heap.push (seqObj "list" out.toArray 0)) s1.heap.objs.size out) (bs.map fun b => b.2.toD)) hoL
    (PySem.W.SortsAt.data (s := { s1 with heap := PySem.W.sortingHeap (s1.heap.push (seqObj "list" out.toArray 0)) s1.heap.objs.size out }) (PySem.W.each_map (R := fun v d => ∃ as, Reads (PySem.W.sortingHeap (s1.heap.push (seqObj "list" out.toArray 0)) s1.heap.objs.size out) v d as) (fun b : V × Val => b.2.toD) reads1) al2 able2 (PySem.W.bound_map fun b hb => ?_)) (by rw [sizeLine_eq]; omega) ⟨.none, rfl, ?_⟩) (args_list_sort _)))
  · have := (dep _ (inYs b hb)).1
    have e1 : X.A.in1.in1.units = X.A.units + 2 := rfl
    first | omega | (show X.A.in1.in1.units + _ < _; omega) | (show X.A.units + 2 + _ < _; omega) | (show X.A.units + 3 + _ < _; omega)
  · have each2 := PySem.W.sortVals_data false each1 reads1 al2
    generalize PySem.W.sortVals _ false out out = fin at each2 ⊢
    obtain ⟨c, hcc⟩ := PyProof.Rows.sortedHeap_at (vs := out) (out := fin.toArray) hoL
    obtain ⟨v1, v2⟩ := of_pairs each2
    have e3 := sort_snd bs
    have e4 : (bs.map (·.2)).mergeSort leB = ys.mergeSort leB := by
      refine sort_perm bsnd (fun x hx => hk x (bsnd.mem_iff.mp hx)) (alikeL_sub al fun y hy => bsnd.mem_iff.mp hy)
    rw [e3, e4] at v1
    generalize (bs.mergeSort (PySem.W.dataLe false fun b => b.2.toD)).map (·.1) = ws at v1 v2
    have hn : H s1.heap.objs.size = none := I.hok.fresh hz
    have kp : ∀ b u, s.heap.get? b = some u → (PyProof.Rows.sortedHeap (s1.heap.push (seqObj "list" out.toArray 0)) s1.heap.objs.size out fin.toArray).get? b = some u := fun b u e => by
      have q := k1 b u e
      have hlt := Heap.lt_size q
      rw [sortedHeap_old (Nat.ne_of_lt hlt) (by rw [size_push']; exact Nat.lt_succ_of_lt hlt)]
      exact Heap.get?_push_of_some _ q
    have wl : ws.length ≤ sizeLine := by
      rw [v1.length, (List.mergeSort_perm _ _).length_eq, ← hlen, rv.length, List.length_map, Array.length_toList, sizeLine_eq]
      unfold scanBound at hb
      omega
    have J : L2.Inv X pins σ (upd H s1.heap.objs.size (.lst ws)) { s with heap := PyProof.Rows.sortedHeap (s1.heap.push (seqObj "list" out.toArray 0)) s1.heap.objs.size out fin.toArray, gens := s1.gens, drawn := s1.drawn, toks := s1.toks } :=
      I.call (ch := []) (Un.laid kp hz hn) (I.hok.laid kp hz ⟨wl, _, c, by simpa using v2, hcc⟩) (by rw [g1]; exact I.bare) fun _ z => nomatch z
    obtain ⟨sh, sg, sd, stk, sos⟩ := s1
    obtain rfl : sos = s.os := o1
    exact wpAny_pure ⟨_, rfl, ⟨.ref _, _, J, rfl, post _ ws hn v1⟩⟩
end
end MV
end

section
set_option maxHeartbeats 4000000
/-! sorted(set(xs)), sorted(xs) by content; max and min of two -/
namespace MV
open PySem PySem.Spec PyProof.Rows L2
open PySem.W (EachIs)

def sortSetV (x : Val) : Option Val := (x.seq?).bind fun xs => if setOk xs = true then some (.lst true ((dedV xs).mergeSort leB)) else none
theorem setOk_pure {xs : List Val} (h : setOk xs = true) : pureL xs = true := by
  rw [pureL_all]
  refine List.all_eq_true.mpr fun x hx => ?_
  obtain ⟨k, e⟩ := Option.isSome_iff_exists.mp ((setOk_keys h).2.1 x hx)
  exact pure_of_key x k e
section
variable {P : Program} {w : World} {K : PySem.W.Frag} {F : Addr → Prop} {H : Hp}
/-- the items of a list or tuple whose items are pure -/
theorem VR.seq_inv {v : V} {x : Val} {xs : List Val} {L : List Addr} (h : VR P w K F H v x L) (e : x.seq? = some xs) (p : pureL xs = true) : ∃ a ws, v = .ref a ∧ (SqL K H a ws ∨ SqT K H a ws) ∧ VRs P w K F H ws xs [] := by
  cases x with
  | lst m ys =>
    cases e
    obtain ⟨a, vs, L0, rfl, hH, hs⟩ := h.lst_inv
    have en := hs.pure_nil p
    subst en
    exact ⟨a, vs, rfl, .inl (SqL.of hH), hs⟩
  | tup ys =>
    cases e
    obtain ⟨a, vs, rfl, hA, hs⟩ := h.tup_inv
    have en := hs.pure_nil p
    subst en
    exact ⟨a, vs, rfl, .inr hA.sq, hs⟩
  | _ => exact nomatch e
theorem SR.garb {F : Addr → Prop} {H : Hp} {σ : S2} {τ : Sl} {L : List Addr} {p : Addr} {o : HO} (s : SR P w K F H σ τ L) (g : Good F H L) (np : H p = none) : SR P w K (fun a => F a ∨ a = p) (upd H p o) σ τ L :=
  s.stepQ (Step.newF (o := o) (good_nil g.ft) np) g.ft
end
section
variable {X : Cx} {e : Expr} {q : Bool} {D : Ev} {p p2 pos pos2 : Pos}
/-- sorted(set(e)) -/
theorem se_sortset (hc : X.calm = true) (hu : X.A.units + 65 < cLine) (h1 : X.mg "sorted" = none) (h2 : X.mg "set" = none) (he : SO q X e D) (hg1 : Gl X "sorted" := by rfl) (hg2 : Gl X "set" := by rfl)
    (ha : starEach (e :: []) X.env = (false, eval e X.env) :: starEach [] X.env := by rfl)
    (hb : starEach ((.Call (.Name "set" p2) [e] [] pos2 : Expr) :: []) X.env = (false, eval (.Call (.Name "set" p2) [e] [] pos2) X.env) :: starEach [] X.env := by rfl) :
    SE q X (.Call (.Name "sorted" p) [.Call (.Name "set" p2) [e] [] pos2] [] pos) (c1 sortSetV D) := by
  have inner := pe_callTy (p := p2) (pos := pos2) (cr_set hc hu) hg2 h2 boot_set (pa_cons he pa_nil ha) (he := ha)
  refine peI (pe_callB (p := p) (pos := pos) (cr_sortS hc hu) hg1 h1 (by decide +kernel) (pa_cons inner pa_nil hb) (he := hb)) fun σ H Q ⟨F, τ, L, z, τ', s, g, ev, post⟩ => ?_
  obtain ⟨⟨x, τ1⟩, e1, ev⟩ := bind_eq ev
  obtain ⟨z', e2, ev⟩ := bind_eq ev
  cases ev
  obtain ⟨xs, e3, e2⟩ := bind_eq e2
  split at e2
  · rename_i ok
    cases e2
    refine ⟨F, τ, L, x, _, s, g, e1, fun v F1 H1 L1 Lr hv s1 st1 => ?_⟩
    obtain ⟨a, ws, rfl, src, hs⟩ := hv.seq_inv e3 (setOk_pure ok)
    refine ⟨F1, a, ws, xs, rfl, src, hs, ok, fun p us ys np hy pm => ?_⟩
    have st2 := Step.newF (o := SetHO X.w p us) (good_nil st1.good.ft) np
    have inYs : ∀ y ∈ ys, y ∈ dedV xs := fun y hy => pm.mem_iff.mp hy
    have so := setOk_sort ok
    have kk : ∀ y ∈ ys, (y.nkey).isSome = true := fun y hy => (setOk_keys ok).2.1 y (dedV_sub xs y (inYs y hy))
    have so2 : sortOk ys = true := by
      unfold sortOk at so ⊢
      simp only [Bool.and_eq_true, Bool.or_eq_true] at so ⊢
      refine ⟨⟨alikeL_sub so.1.1 inYs, List.all_eq_true.mpr fun y hy => List.all_eq_true.mp so.1.2 y (inYs y hy)⟩, so.2.imp (fun h => ?_) fun h => ?_⟩
      · exact List.all_eq_true.mpr fun y hy => List.all_eq_true.mp h y (inYs y hy)
      · exact List.all_eq_true.mpr fun y hy => List.all_eq_true.mp h y (inYs y hy)
    refine ⟨_, p, us, ys, rfl, upd_same, VRs.stepQ hy st2 st1.good.ft, so2, kk, fun p' ws' np' hw => ?_⟩
    have e5 : ys.mergeSort leB = (dedV xs).mergeSort leB := sort_perm pm kk (by simp only [sortOk, Bool.and_eq_true] at so2; exact so2.1.1)
    rw [e5] at hw
    have st12 := (st1.trans (st2.ext0 st1.good)).andT
    exact post_lst st12.good.ft (fun u F2 H2 M h2 st3 => post u F2 H2 L1 M h2 ((s1.garb st1.good np).stepQ st3 st12.good.ft) (st12.op st3)) hw np'
  · cases e2
end
end MV
end

section
set_option maxHeartbeats 4000000
/-! freezing, chained comparisons, max and min of two, tuples written at the top -/
namespace MV
open PySem PySem.Spec PyProof.Rows L2

/-! freezing -/
def frE (D : Ev) : Ev := fun τ => (D τ).bind fun p => some (p.1.frz, p.2)
section
variable {X : Cx} {q : Bool} {e a b c : Expr} {D Da Db Dc : Ev} {pos : Pos}
theorem se_frz (h : SE q X e D) : SE q X e (frE D) := peI h fun σ H Q ⟨F, τ, L, x, τ', s, g, ev, post⟩ => by
  obtain ⟨⟨y, τ1⟩, e1, ev⟩ := bind_eq ev
  cases ev
  refine ⟨F, τ, L, y, _, s, g, e1, fun v F1 H1 L1 Lr h1 s1 st1 => ?_⟩
  have st2 := Step.freeze st1.good
  have h2 := h1.frz (F' := fun a => F1 a ∨ a ∈ Lr) (fun _ z => .inl z) fun a ha => .inr ha
  exact post v _ H1 L1 [] h2 s1.grow (by rw [List.append_nil]; exact (st1.trans st2).andT)

/-! a op b op' c -/
def chM (g g' : Val → Val → Option Val) (Da Db Dc : Ev) : Ev := fun τ => (Da τ).bind fun p => (Db p.2).bind fun r => (g p.1 r.1).bind fun z => (z.bool?).bind fun k =>
  if k = true then (Dc r.2).bind fun t => (g' r.1 t.1).bind fun y => some (y, t.2) else some (.bl false, r.2)
theorem tCh_ok {P : Program} {w : World} {K : PySem.W.Frag} {r r' : R2} {g g' : Val → Val → Option Val} (hm : M2 P w K r g) (hm' : M2 P w K r' g') (σ : S2) (H : Hp) (Q : VK) (h : tE P w K q (chM g g' Da Db Dc) σ H Q) : tChain r r' (tO P w K q Da) (tO P w K true Db) (tO P w K true Dc) σ H Q := by
  obtain ⟨F, τ, L, x, τ', s, gd, ev, post⟩ := h
  obtain ⟨⟨xa, τ1⟩, e1, ev⟩ := bind_eq ev
  obtain ⟨⟨xb, τ2⟩, e2, ev⟩ := bind_eq ev
  obtain ⟨z, e3, ev⟩ := bind_eq ev
  obtain ⟨k, e4, evk⟩ := bind_eq ev
  obtain rfl := bool?_some e4
  refine ⟨F, τ, L, xa, τ1, s, gd, e1, fun va F1 H1 L1 La ha s1 st1 => ?_⟩
  refine ⟨F1, τ1, L1, xb, τ2, s1, st1.good, e2, fun vb F2 H2 L2 Lb hb s2 st2 => ?_⟩
  have ha2 := ha.stepQ st2 st1.good.ft
  refine hm F2 H2 va vb xa xb La Lb (.bl k) _ st2.good.ft ha2 hb e3 fun u F3 H3 M hu st3 => ⟨k, hu.bl_inv, ?_⟩
  have en : M = [] := hu.pure_nil rfl
  subst en
  have st3' := st3.ext0 st2.good
  have s3 := s2.stepQ st3 st2.good.ft
  have st13 := (st1.trans st2).andT.trans st3' |>.andT
  by_cases hk : k = true
  · rw [if_pos hk] at evk ⊢
    obtain ⟨⟨xc, τ3⟩, e5, evk⟩ := bind_eq evk
    obtain ⟨y, e6, evk⟩ := bind_eq evk
    cases evk
    refine ⟨F3, τ2, L2, xc, τ3, s3, st3'.good, e5, fun vc F4 H4 L4 Lc hc s4 st4 => ?_⟩
    have hb4 := (hb.stepQ st3 st2.good.ft).stepQ st4 st3'.good.ft
    refine hm' F4 H4 vb vc xb xc Lb Lc _ _ st4.good.ft hb4 hc e6 fun u F5 H5 M5 hu5 st5 => ?_
    exact post u F5 H5 L4 M5 hu5 (s4.stepQ st5 st4.good.ft) ((st13.trans st4).andT.op st5)
  · rw [if_neg hk] at evk ⊢
    cases evk
    exact post _ F3 H3 L2 [] (.bl false) s3 (by rw [List.append_nil]; exact st13)
theorem se_chain {op op' : CmpOp} {r r' : R2} {g g' : Val → Val → Option Val} (ho : OpR X (compareOp op) r) (hm : M2 X.prog X.w X.K r g) (ho' : OpR X (compareOp op') r') (hm' : M2 X.prog X.w X.K r' g') (ha : SO q X a Da) (hb : SO true X b Db) (hc : SO true X c Dc)
    (hk : lastMarks [op, op'] [b, c] = false := by with_unfolding_all rfl) : SE q X (.Compare a [op, op'] [b, c] pos) (chM g g' Da Db Dc) := peI (pe_chain ho ho' ha hb hc hk) (tCh_ok hm hm')
theorem st_chain {op op' : CmpOp} {r r' : R2} {g g' : Val → Val → Option Val} (ho : OpR X (compareOp op) r) (hm : M2 X.prog X.w X.K r g) (ho' : OpR X (compareOp op') r') (hm' : M2 X.prog X.w X.K r' g') (ha : SO q X a Da) (hb : SO true X b Db) (hc : SO true X c Dc)
    (hk : lastMarks [op, op'] [b, c] = false := by with_unfolding_all rfl) : ST q X (.Compare a [op, op'] [b, c] pos) (tst (chM g g' Da Db Dc)) :=
  ptI (pt_chain ho ho' ha hb hc hk) fun σ H Q h => by
    obtain ⟨F, τ, L, c, τ', s, gd, ev, post⟩ := h
    obtain ⟨⟨x, τ1⟩, e1, ev⟩ := bind_eq ev
    obtain ⟨c', e2, ev⟩ := bind_eq ev
    cases ev
    obtain rfl := bool?_some e2
    exact tCh_ok hm hm' σ H _ ⟨F, τ, L, _, _, s, gd, e1, fun v F' H' L' Lr h1 s1 st1 => ⟨c, h1.bl_inv, post F' H' L' s1 (st1.sub (Sub.left L' Lr))⟩⟩
end

/-! max, min of two that are alike -/
section
variable {P : Program} {w : World} {A : Around} {E : Value → Shared → Prop} {s : Shared}
theorem reads_kept {h h' : Heap} (hk : ∀ b o, h.get? b = some o → h'.get? b = some o) {v : Value} {d : PyData} (r : ∃ as, Reads h v d as) : ∃ as, Reads h' v d as := let ⟨as, r⟩ := r; ⟨as, PyProof.Rows.Reads.keeps hk r⟩
theorem pair_get {a b : Value} {da db : PyData} {i : Nat} {v : Value} (h : #[a, b][i]? = some v) : (i = 0 ∧ v = a) ∨ (i = 1 ∧ v = b) := by
  rcases i with _ | _ | i
  · left; exact ⟨rfl, by simpa using h.symm⟩
  · right; exact ⟨rfl, by simpa using h.symm⟩
  · simp at h
theorem max_two_data {a b : Value} {da db : PyData} {Q : Value → Shared → Prop} (hh : A.handled = none) (ra : ∃ as, Reads s.heap a da as) (rb : ∃ as, Reads s.heap b db as) (al : ∀ d ∈ [da, db], ∀ e ∈ [da, db], PySem.W.alike d e = true) (nn : ∀ d ∈ [da, db], d ≠ .none)
    (hu : ∀ d ∈ [da, db], A.units + 1 + d.depth < cLine) (h : ∀ h' tk, (∀ c o, s.heap.get? c = some o → h'.get? c = some o) → Q (if PySem.W.dataLt da db = true then b else a) { s with heap := h', toks := tk }) :
    wpAny (model P w) A (call (.builtin "max") [a, b]) Q E s := by
  have hname : (toString "max" ++ toString ".loop" : String) = "max.loop" := by decide
  refine call_function_tree F.kind_max F.plain_max F.entry_max (F.args_max2 _ _) ?_
  show wpAny _ A.in1 (Builtin.Builtins.bindParams "max" ["key", "default"] 0 ⟨[], []⟩ >>= _) _ _ s
  refine wpAny_bind (wpAny_of_eq (show Builtin.Builtins.bindParams "max" ["key", "default"] 0 ⟨[], []⟩ = pure [none, none] from rfl) ?_)
  show wpAny _ A.in1 (newTuple [a, b] >>= _) _ _ s
  refine wpAny_bind (wpAny_newObj_type ?_)
  generalize hh1 : s.heap.push { cls := .type "tuple", data := .seq #[a, b] } = h1
  have hT : h1.IsTuple s.heap.objs.size #[a, b] := by rw [← hh1]; exact ⟨_, Heap.get?_push_size _ rfl, rfl, 0, rfl⟩
  have hz : h1.objs.size = s.heap.objs.size + 1 := by rw [← hh1]; exact Heap.size_push ..
  have k1 : ∀ c o, s.heap.get? c = some o → h1.get? c = some o := fun c o e => by rw [← hh1]; exact Heap.get?_push_of_some _ e
  refine wpAny_bind (wpAny_pyIter_tuple hT ?_)
  refine wpAny_bind (wpAny_newObj_type ?_)
  rw [hname]
  have W := (Walks.tuple (prog := P) (w := w) (A := A.in1) (show A.in1.handled = none by simp [hh]) h1.objs.size s.heap.objs.size (by rw [hz]; exact Nat.ne_of_lt (Nat.lt_succ_self _)) #[a, b]).toS
  have hz2 : (h1.push { cls := .type "tuple_iterator", data := .fields #[.ref s.heap.objs.size, .int 0 0] }).objs.size = h1.objs.size + 1 := Heap.size_push ..
  have live : ∀ {b : Addr} {o : Obj}, s.heap.get? b = some o → b ≠ h1.objs.size := fun e => by
    have := Heap.lt_size e
    rw [hz]
    exact Nat.ne_of_lt (Nat.lt_succ_of_lt this)
  have cmp : CmpIn P w A.in1 .Gt s.heap (fun i v => #[a, b][i]? = some v) fun i j => PySem.W.dataLt (if j = 0 then da else db) (if i = 0 then da else db) := by
    intro i j vi vj s2 Q2 E2 hk hi hj q
    have rd : ∀ {i : Nat} {v : Value}, #[a, b][i]? = some v → (∃ as, Reads s2.heap v (if i = 0 then da else db) as) ∧ (if i = 0 then da else db) ∈ [da, db] := fun {i v} hi => by
      rcases pair_get (da := da) (db := db) hi with ⟨rfl, rfl⟩ | ⟨rfl, rfl⟩
      · exact ⟨reads_kept hk ra, by simp⟩
      · exact ⟨reads_kept hk rb, by simp⟩
    obtain ⟨⟨as, r1⟩, m1⟩ := rd hi
    obtain ⟨⟨bs, r2⟩, m2⟩ := rd hj
    exact PySem.W.rcGt_alike _ _ _ s2 vi vj as bs r1 r2 (al _ m1 _ m2) (nn _ m1) (by
      have := hu _ m1
      have e1 : A.in1.units = A.units + 1 := rfl
      omega) P w E2 Q2 q
  refine wpAny_pure ⟨plainId_quiet F.plain_max_loop _, codeAny_max_loop_firstH W s.heap (fun b o e z => live e (List.mem_singleton.mp z)) _ cmp (h1.push { cls := .type "tuple_iterator", data := .fields #[.ref s.heap.objs.size, .int 0 0] }).objs.size ?_ ?_ _ (by simp) (fun b o e => Heap.get?_push_of_some _ (Heap.get?_push_of_some _ (k1 b o e))) (W.frame 0 { s with heap := h1.push { cls := .type "tuple_iterator", data := .fields #[.ref s.heap.objs.size, .int 0 0] } } _ _ ⟨⟨_, Heap.get?_push_size _ rfl, rfl, rfl⟩, hT.push _⟩ (Nat.le_refl _) fun b _ o e => Heap.get?_push_of_some _ e) (Heap.get?_push_size _ rfl) fun v s' hP hm => ?_⟩
  · rw [hz2]
    simp only [List.mem_cons, List.not_mem_nil, or_false, not_or]
    refine ⟨Nat.ne_of_gt (Nat.lt_succ_self _), ?_⟩
    rw [hz]
    exact Nat.ne_of_gt (Nat.lt_succ_of_lt (Nat.lt_succ_self _))
  · cases e : s.heap.get? (h1.push { cls := .type "tuple_iterator", data := .fields #[.ref s.heap.objs.size, .int 0 0] }).objs.size with
    | none => rfl
    | some o =>
      have := Heap.lt_size e
      rw [hz2, hz] at this
      exact absurd this (Nat.not_lt.mpr (Nat.le_succ_of_le (Nat.le_succ _)))
  · obtain ⟨hp, hg, hd, htk, hos⟩ := s'
    obtain rfl : hg = s.gens := hm.gens
    obtain rfl : hd = s.drawn := hm.drawn
    obtain rfl : hos = s.os := hm.os
    have ans : v = if PySem.W.dataLt da db = true then b else a := by
      have : argBest (fun i j => PySem.W.dataLt (if j = 0 then da else db) (if i = 0 then da else db)) (#[a, b].size - 1) = if PySem.W.dataLt da db = true then 1 else 0 := rfl
      rw [this] at hP
      split at hP
      · rename_i c
        rw [if_pos c]
        simpa using hP.symm
      · rename_i c
        rw [if_neg c]
        simpa using hP.symm
    rw [ans]
    refine h hp htk fun c o e => hm.heap c o (fun z => ?_) (Heap.get?_push_of_some _ (Heap.get?_push_of_some _ (k1 c o e)))
    have lt := Heap.lt_size e
    rw [hz2] at z
    simp only [List.mem_cons, List.not_mem_nil, or_false] at z
    rcases z with z | z
    · rw [z, hz] at lt
      exact absurd lt (Nat.not_lt.mpr (Nat.le_succ_of_le (Nat.le_succ _)))
    · exact live e z
theorem min_two_data {a b : Value} {da db : PyData} {Q : Value → Shared → Prop} (hh : A.handled = none) (ra : ∃ as, Reads s.heap a da as) (rb : ∃ as, Reads s.heap b db as) (al : ∀ d ∈ [da, db], ∀ e ∈ [da, db], PySem.W.alike d e = true) (nn : ∀ d ∈ [da, db], d ≠ .none)
    (hu : ∀ d ∈ [da, db], A.units + 1 + d.depth < cLine) (h : ∀ h' tk, (∀ c o, s.heap.get? c = some o → h'.get? c = some o) → Q (if PySem.W.dataLt db da = true then b else a) { s with heap := h', toks := tk }) :
    wpAny (model P w) A (call (.builtin "min") [a, b]) Q E s := by
  have hname : (toString "min" ++ toString ".loop" : String) = "min.loop" := by decide
  refine call_function_tree F.kind_min F.plain_min F.entry_min (F.args_min2 _ _) ?_
  show wpAny _ A.in1 (Builtin.Builtins.bindParams "min" ["key", "default"] 0 ⟨[], []⟩ >>= _) _ _ s
  refine wpAny_bind (wpAny_of_eq (show Builtin.Builtins.bindParams "min" ["key", "default"] 0 ⟨[], []⟩ = pure [none, none] from rfl) ?_)
  show wpAny _ A.in1 (newTuple [a, b] >>= _) _ _ s
  refine wpAny_bind (wpAny_newObj_type ?_)
  generalize hh1 : s.heap.push { cls := .type "tuple", data := .seq #[a, b] } = h1
  have hT : h1.IsTuple s.heap.objs.size #[a, b] := by rw [← hh1]; exact ⟨_, Heap.get?_push_size _ rfl, rfl, 0, rfl⟩
  have hz : h1.objs.size = s.heap.objs.size + 1 := by rw [← hh1]; exact Heap.size_push ..
  have k1 : ∀ c o, s.heap.get? c = some o → h1.get? c = some o := fun c o e => by rw [← hh1]; exact Heap.get?_push_of_some _ e
  refine wpAny_bind (wpAny_pyIter_tuple hT ?_)
  refine wpAny_bind (wpAny_newObj_type ?_)
  rw [hname]
  have W := (Walks.tuple (prog := P) (w := w) (A := A.in1) (show A.in1.handled = none by simp [hh]) h1.objs.size s.heap.objs.size (by rw [hz]; exact Nat.ne_of_lt (Nat.lt_succ_self _)) #[a, b]).toS
  have hz2 : (h1.push { cls := .type "tuple_iterator", data := .fields #[.ref s.heap.objs.size, .int 0 0] }).objs.size = h1.objs.size + 1 := Heap.size_push ..
  have live : ∀ {b : Addr} {o : Obj}, s.heap.get? b = some o → b ≠ h1.objs.size := fun e => by
    have := Heap.lt_size e
    rw [hz]
    exact Nat.ne_of_lt (Nat.lt_succ_of_lt this)
  have cmp : CmpIn P w A.in1 .Lt s.heap (fun i v => #[a, b][i]? = some v) fun i j => PySem.W.dataLt (if i = 0 then da else db) (if j = 0 then da else db) := by
    intro i j vi vj s2 Q2 E2 hk hi hj q
    have rd : ∀ {i : Nat} {v : Value}, #[a, b][i]? = some v → (∃ as, Reads s2.heap v (if i = 0 then da else db) as) ∧ (if i = 0 then da else db) ∈ [da, db] := fun {i v} hi => by
      rcases pair_get (da := da) (db := db) hi with ⟨rfl, rfl⟩ | ⟨rfl, rfl⟩
      · exact ⟨reads_kept hk ra, by simp⟩
      · exact ⟨reads_kept hk rb, by simp⟩
    obtain ⟨⟨as, r1⟩, m1⟩ := rd hi
    obtain ⟨⟨bs, r2⟩, m2⟩ := rd hj
    exact PySem.W.rcLt_alike _ _ _ s2 vi vj as bs r1 r2 (al _ m1 _ m2) (nn _ m1) (by
      have := hu _ m1
      have e1 : A.in1.units = A.units + 1 := rfl
      omega) P w E2 Q2 q
  refine wpAny_pure ⟨plainId_quiet F.plain_min_loop _, codeAny_min_loop_firstH W s.heap (fun b o e z => live e (List.mem_singleton.mp z)) _ cmp (h1.push { cls := .type "tuple_iterator", data := .fields #[.ref s.heap.objs.size, .int 0 0] }).objs.size ?_ ?_ _ (by simp) (fun b o e => Heap.get?_push_of_some _ (Heap.get?_push_of_some _ (k1 b o e))) (W.frame 0 { s with heap := h1.push { cls := .type "tuple_iterator", data := .fields #[.ref s.heap.objs.size, .int 0 0] } } _ _ ⟨⟨_, Heap.get?_push_size _ rfl, rfl, rfl⟩, hT.push _⟩ (Nat.le_refl _) fun b _ o e => Heap.get?_push_of_some _ e) (Heap.get?_push_size _ rfl) fun v s' hP hm => ?_⟩
  · rw [hz2]
    simp only [List.mem_cons, List.not_mem_nil, or_false, not_or]
    refine ⟨Nat.ne_of_gt (Nat.lt_succ_self _), ?_⟩
    rw [hz]
    exact Nat.ne_of_gt (Nat.lt_succ_of_lt (Nat.lt_succ_self _))
  · cases e : s.heap.get? (h1.push { cls := .type "tuple_iterator", data := .fields #[.ref s.heap.objs.size, .int 0 0] }).objs.size with
    | none => rfl
    | some o =>
      have := Heap.lt_size e
      rw [hz2, hz] at this
      exact absurd this (Nat.not_lt.mpr (Nat.le_succ_of_le (Nat.le_succ _)))
  · obtain ⟨hp, hg, hd, htk, hos⟩ := s'
    obtain rfl : hg = s.gens := hm.gens
    obtain rfl : hd = s.drawn := hm.drawn
    obtain rfl : hos = s.os := hm.os
    have ans : v = if PySem.W.dataLt db da = true then b else a := by
      have : argBest (fun i j => PySem.W.dataLt (if i = 0 then da else db) (if j = 0 then da else db)) (#[a, b].size - 1) = if PySem.W.dataLt db da = true then 1 else 0 := rfl
      rw [this] at hP
      split at hP
      · rename_i c
        rw [if_pos c]
        simpa using hP.symm
      · rename_i c
        rw [if_neg c]
        simpa using hP.symm
    rw [ans]
    refine h hp htk fun c o e => hm.heap c o (fun z => ?_) (Heap.get?_push_of_some _ (Heap.get?_push_of_some _ (k1 c o e)))
    have lt := Heap.lt_size e
    rw [hz2] at z
    simp only [List.mem_cons, List.not_mem_nil, or_false] at z
    rcases z with z | z
    · rw [z, hz] at lt
      exact absurd lt (Nat.not_lt.mpr (Nat.le_succ_of_le (Nat.le_succ _)))
    · exact live e z
end

def noneD : PyData → Bool
  | .none => true
  | _ => false
def pickOk (x y : Val) : Bool := [x, y].all fun a => a.pure && a.toD.canLay0 && decide (a.toD.depth ≤ 8) && !noneD a.toD && [x, y].all fun b => PySem.W.alike a.toD b.toD
def maxV : List Val → Option Val
  | [x, y] => if pickOk x y = true then some (if PySem.W.dataLt x.toD y.toD = true then y else x) else none
  | _ => none
def minV : List Val → Option Val
  | [x, y] => if pickOk x y = true then some (if PySem.W.dataLt y.toD x.toD = true then y else x) else none
  | _ => none
section
variable {X : Cx}
theorem pickOk_inv {x y a : Val} (h : pickOk x y = true) (ha : a ∈ [x, y]) : a.pure = true ∧ a.toD.canLay0 = true ∧ a.toD.depth ≤ 8 ∧ a.toD ≠ .none ∧ ∀ b ∈ [x, y], PySem.W.alike a.toD b.toD = true := by
  have := List.all_eq_true.mp h a ha
  simp only [Bool.and_eq_true, decide_eq_true_eq, Bool.not_eq_true'] at this
  exact ⟨this.1.1.1.1, this.1.1.1.2, this.1.1.2, fun e => by rw [e] at this; exact absurd this.1.2 (by decide), fun b hb => List.all_eq_true.mp this.2 b hb⟩
theorem call_maxV (hc : X.calm = true) (hu : X.A.units + 65 < cLine) : CallR X (.builtin "max") (rGN X.prog X.w X.K maxV) := by
  intro pins s σ H vs us Q I r ⟨F, xs, L, z, ft, hx, e, post⟩
  unfold maxV at e
  split at e
  · rename_i x y
    split at e
    · rename_i ok
      cases e
      obtain ⟨v, u, L1, L2, rfl, h1, h2⟩ := hx.inv2
      obtain ⟨pv, pu, rfl, r1, r2⟩ := vals2 r
      have ix := pickOk_inv ok (a := x) (by simp)
      have iy := pickOk_inv ok (a := y) (by simp)
      have n1 := h1.pure_nil ix.1
      have n2 := h2.pure_nil iy.1
      subst n1 n2
      refine max_two_data (da := x.toD) (db := y.toD) (I.ok.hd hc) (Dp.reads I _ _ _ (h1.dp ix.2.1) r1) (Dp.reads I _ _ _ (h2.dp iy.2.1) r2) ?_ ?_ ?_ fun h' tk k => ?_
      · intro d hd d' hd'
        simp only [List.mem_cons, List.not_mem_nil, or_false] at hd hd'
        rcases hd with rfl | rfl <;> rcases hd' with rfl | rfl
        · exact ix.2.2.2.2 x (by simp)
        · exact ix.2.2.2.2 y (by simp)
        · exact iy.2.2.2.2 x (by simp)
        · exact iy.2.2.2.2 y (by simp)
      · intro d hd
        simp only [List.mem_cons, List.not_mem_nil, or_false] at hd
        rcases hd with rfl | rfl
        · exact ix.2.2.2.1
        · exact iy.2.2.2.1
      · intro d hd
        simp only [List.mem_cons, List.not_mem_nil, or_false] at hd
        have := ix.2.2.1
        have := iy.2.2.1
        rcases hd with rfl | rfl <;> omega
      · refine ⟨if PySem.W.dataLt x.toD y.toD = true then u else v, H, I.kept k, ?_, post_id ft post ?_⟩
        · split <;> assumption
        · split <;> assumption
    · cases e
  · cases e
theorem call_minV (hc : X.calm = true) (hu : X.A.units + 65 < cLine) : CallR X (.builtin "min") (rGN X.prog X.w X.K minV) := by
  intro pins s σ H vs us Q I r ⟨F, xs, L, z, ft, hx, e, post⟩
  unfold minV at e
  split at e
  · rename_i x y
    split at e
    · rename_i ok
      cases e
      obtain ⟨v, u, L1, L2, rfl, h1, h2⟩ := hx.inv2
      obtain ⟨pv, pu, rfl, r1, r2⟩ := vals2 r
      have ix := pickOk_inv ok (a := x) (by simp)
      have iy := pickOk_inv ok (a := y) (by simp)
      have n1 := h1.pure_nil ix.1
      have n2 := h2.pure_nil iy.1
      subst n1 n2
      refine min_two_data (da := x.toD) (db := y.toD) (I.ok.hd hc) (Dp.reads I _ _ _ (h1.dp ix.2.1) r1) (Dp.reads I _ _ _ (h2.dp iy.2.1) r2) ?_ ?_ ?_ fun h' tk k => ?_
      · intro d hd d' hd'
        simp only [List.mem_cons, List.not_mem_nil, or_false] at hd hd'
        rcases hd with rfl | rfl <;> rcases hd' with rfl | rfl
        · exact ix.2.2.2.2 x (by simp)
        · exact ix.2.2.2.2 y (by simp)
        · exact iy.2.2.2.2 x (by simp)
        · exact iy.2.2.2.2 y (by simp)
      · intro d hd
        simp only [List.mem_cons, List.not_mem_nil, or_false] at hd
        rcases hd with rfl | rfl
        · exact ix.2.2.2.1
        · exact iy.2.2.2.1
      · intro d hd
        simp only [List.mem_cons, List.not_mem_nil, or_false] at hd
        have := ix.2.2.1
        have := iy.2.2.1
        rcases hd with rfl | rfl <;> omega
      · refine ⟨if PySem.W.dataLt y.toD x.toD = true then u else v, H, I.kept k, ?_, post_id ft post ?_⟩
        · split <;> assumption
        · split <;> assumption
    · cases e
  · cases e
end
/-! a tuple that the top wrote -/
theorem vr_ktup {P : Program} {w : World} {K : PySem.W.Frag} {a : Addr} {o : Obj} {its : Array Value} {n : Nat} {vs : List V} {xs : List Val} (h1 : K.lookup a = some o) (h2 : o.cls = .type "tuple") (h3 : o.data = .seq its n) (h4 : its.size ≤ sizeLine) (h5 : Vals vs its.toList)
    (h6 : ∀ F H, VRs P w K F H vs xs []) (F : Addr → Prop) (H : Hp) : VR P w K F H (.ref a) (.tup xs) [] := .tup (.inr ⟨o, its, n, h1, h2, h3, h4, h5⟩) (h6 F H)
end MV
end

section
set_option maxHeartbeats 4000000
/-! names that the top wrote; promises of defs -/
namespace MV
open PySem PySem.Spec PyProof.Rows L2
/-- the name x at the top stands for the content y -/
def Glb (K : PySem.W.Frag) (mg : Str → Option Value) (x : Str) (y : Val) : Prop := ∃ v u, mg x = some u ∧ RelV v u ∧ ∀ P w F H, VR P w K F H v y []
theorem se_glb {X : Cx} {pos : Pos} {x : Str} {y : Val} (h : Glb X.K X.mg x y) (hg : Gl X x := by rfl) (hd : (x == ("__debug__" : Str)) = false := by decide) : SE true X (.Name x pos) (cC y) := by
  obtain ⟨v, u, h1, h2, h3⟩ := h
  exact se_glob h1 h2 (fun F H => h3 _ _ F H) hg hd
theorem Glb.int {K : PySem.W.Frag} {mg : Str → Option Value} {x : Str} {i : Int} {t : Tok} (h : mg x = some (.int i t)) : Glb K mg x (.int i) := ⟨.int i, _, h, ⟨t, rfl⟩, fun _ _ _ _ => .int i⟩
end MV
end

section
set_option maxHeartbeats 4000000
/-! tools for mirrors: comprehensions and loops run, nice values, rising lists -/
namespace MV
open PySem

/-! comprehensions whose items don't depend on one another -/
theorem lcL_det {T : Tg} {C : Tv} {E : Ev} {own : List Nat} {τ0 : Sl} (g : Val → Option Val) : ∀ (xs : List Val),
    (∀ x ∈ xs, ∃ τ2, T x τ0 = some τ2 ∧ ((g x = none ∧ ∃ τ3, C τ2 = some (false, τ3) ∧ wipeM τ3 own = τ0) ∨ ∃ y τ3 τ4, g x = some y ∧ C τ2 = some (true, τ3) ∧ E τ3 = some (y, τ4) ∧ wipeM τ4 own = τ0)) →
    lcL T C E own xs τ0 = some (xs.filterMap g, τ0)
  | [], _ => rfl
  | x :: r, h => by
    have ih := lcL_det g r fun y hy => h y (List.mem_cons_of_mem _ hy)
    obtain ⟨τ2, h1, h2⟩ := h x List.mem_cons_self
    rcases h2 with ⟨hg, τ3, h3, h4⟩ | ⟨y, τ3, τ4, hg, h3, h4, h5⟩
    · simp [lcL, h1, h3, h4, ih, List.filterMap_cons, hg]
    · simp [lcL, h1, h3, h4, h5, ih, List.filterMap_cons, hg]
theorem lcM_det {I : Evs} {T : Tg} {C : Tv} {E : Ev} {own : List Nat} {τ τ1 : Sl} {xs : List Val} (g : Val → Option Val) (hI : I τ = some (xs, τ1)) (hl : xs.length ≤ sizeLine)
    (h : ∀ x ∈ xs, ∃ τ2, T x (wipeM τ1 own) = some τ2 ∧ ((g x = none ∧ ∃ τ3, C τ2 = some (false, τ3) ∧ wipeM τ3 own = wipeM τ1 own) ∨ ∃ y τ3 τ4, g x = some y ∧ C τ2 = some (true, τ3) ∧ E τ3 = some (y, τ4) ∧ wipeM τ4 own = wipeM τ1 own)) :
    lcM I T C E own τ = some (.lst true (xs.filterMap g), wipeM τ1 own) := by
  have e := lcL_det g xs h
  have hl2 : (xs.filterMap g).length ≤ sizeLine := Nat.le_trans (List.length_filterMap_le _ _) hl
  simp [lcM, hI, e, hl2]
/-- .. that change what they own, all alike -/
theorem lcL_inv {T : Tg} {C : Tv} {E : Ev} {own : List Nat} (Inv : Sl → Prop) (R : Val → Val → Prop) : ∀ (xs : List Val) (τ : Sl), Inv τ →
    (∀ x ∈ xs, ∀ τ, Inv τ → ∃ τ2, T x τ = some τ2 ∧ ∃ b τ3, C τ2 = some (b, τ3) ∧ (b = false → Inv (wipeM τ3 own)) ∧ (b = true → ∃ y τ4, E τ3 = some (y, τ4) ∧ R x y ∧ Inv (wipeM τ4 own))) →
    ∃ (zs ys : List Val) (τ' : Sl), lcL T C E own xs τ = some (ys, τ') ∧ Inv τ' ∧ zs.Sublist xs ∧ zs.length = ys.length ∧ ∀ (i : Nat) (z y : Val), zs[i]? = some z → ys[i]? = some y → R z y
  | [], τ, hi, _ => ⟨[], [], τ, rfl, hi, List.Sublist.refl _, rfl, fun i z y h => by simp at h⟩
  | x :: r, τ, hi, h => by
    obtain ⟨τ2, h1, b, τ3, h2, h3, h4⟩ := h x List.mem_cons_self τ hi
    cases b with
    | false =>
      obtain ⟨zs, ys, τ', e, i', sb, el, rel⟩ := lcL_inv Inv R r _ (h3 rfl) fun y hy => h y (List.mem_cons_of_mem _ hy)
      exact ⟨zs, ys, τ', by simp [lcL, h1, h2, e], i', sb.cons _, el, rel⟩
    | true =>
      obtain ⟨y, τ4, h5, h6, h7⟩ := h4 rfl
      obtain ⟨zs, ys, τ', e, i', sb, el, rel⟩ := lcL_inv Inv R r _ h7 fun y hy => h y (List.mem_cons_of_mem _ hy)
      refine ⟨x :: zs, y :: ys, τ', by simp [lcL, h1, h2, h5, e], i', sb.cons₂ _, by simp [el], fun i z w hz hw => ?_⟩
      cases i with
      | zero =>
        simp at hz hw
        subst hz hw
        exact h6
      | succ i => exact rel i z w (by simpa using hz) (by simpa using hw)
/-- .. without a test -/
theorem lcL_all {T : Tg} {E : Ev} {own : List Nat} (Inv : Sl → Prop) (R : Val → Val → Prop) : ∀ (xs : List Val) (τ : Sl), Inv τ →
    (∀ x ∈ xs, ∀ τ, Inv τ → ∃ τ2, T x τ = some τ2 ∧ ∃ y τ4, E τ2 = some (y, τ4) ∧ R x y ∧ Inv (wipeM τ4 own)) →
    ∃ ys τ', lcL T yesM E own xs τ = some (ys, τ') ∧ Inv τ' ∧ xs.length = ys.length ∧ (∀ y ∈ ys, ∃ x ∈ xs, R x y)
  | [], τ, hi, _ => ⟨[], τ, rfl, hi, rfl, fun y h => by simp at h⟩
  | x :: r, τ, hi, h => by
    obtain ⟨τ2, h1, y, τ4, h5, h6, h7⟩ := h x List.mem_cons_self τ hi
    obtain ⟨ys, τ', e, i', el, rel⟩ := lcL_all Inv R r _ h7 fun y hy => h y (List.mem_cons_of_mem _ hy)
    refine ⟨y :: ys, τ', by simp [lcL, h1, yesM, h5, e], i', by simp [el], fun z hz => ?_⟩
    rcases List.mem_cons.mp hz with rfl | hz
    · exact ⟨x, List.mem_cons_self, h6⟩
    · obtain ⟨w, hw, k⟩ := rel z hz
      exact ⟨w, List.mem_cons_of_mem _ hw, k⟩

/-! loops -/
/-- a loop that goes on -/
theorem forL_inv {T : Tg} {B : Sv} (Inv : Sl → Prop) : ∀ (xs : List Val) (τ : Sl), Inv τ → (∀ x ∈ xs, ∀ τ, Inv τ → ∃ τ1, T x τ = some τ1 ∧ ∃ τ2, B τ1 = some (.next, τ2) ∧ Inv τ2) → ∃ τ', forL T B xs τ = some (.next, τ') ∧ Inv τ'
  | [], τ, hi, _ => ⟨τ, rfl, hi⟩
  | x :: r, τ, hi, h => by
    obtain ⟨τ1, h1, τ2, h2, h3⟩ := h x List.mem_cons_self τ hi
    obtain ⟨τ', e, i'⟩ := forL_inv Inv r τ2 h3 fun y hy => h y (List.mem_cons_of_mem _ hy)
    exact ⟨τ', by simp [forL, h1, h2, e], i'⟩
/-- a loop that ends at the first item of a kind -/
theorem forL_find {T : Tg} {B : Sv} (Inv : Sl → Prop) (p : Val → Bool) (v : Val) : ∀ (xs : List Val) (τ : Sl), Inv τ →
    (∀ x ∈ xs, ∀ τ, Inv τ → ∃ τ1, T x τ = some τ1 ∧ ∃ τ2, (p x = false → B τ1 = some (.next, τ2) ∧ Inv τ2) ∧ (p x = true → B τ1 = some (.ret v, τ2))) →
    ∃ τ', (xs.any p = false → forL T B xs τ = some (.next, τ') ∧ Inv τ') ∧ (xs.any p = true → forL T B xs τ = some (.ret v, τ'))
  | [], τ, hi, _ => ⟨τ, fun _ => ⟨rfl, hi⟩, fun h => by simp at h⟩
  | x :: r, τ, hi, h => by
    obtain ⟨τ1, h1, τ2, h2, h3⟩ := h x List.mem_cons_self τ hi
    cases hp : p x with
    | true => exact ⟨τ2, fun z => by simp [hp] at z, fun _ => by simp [forL, h1, h3 hp]⟩
    | false =>
      obtain ⟨h4, h5⟩ := h2 hp
      obtain ⟨τ', e1, e2⟩ := forL_find Inv p v r τ2 h5 fun y hy => h y (List.mem_cons_of_mem _ hy)
      refine ⟨τ', fun z => ?_, fun z => ?_⟩
      · simp [hp] at z
        obtain ⟨e3, e4⟩ := e1 (by simpa using z)
        exact ⟨by simp [forL, h1, h4, e3], e4⟩
      · simp [hp] at z
        have e3 := e2 (by simpa using z)
        simp [forL, h1, h4, e3]

/-! nice values: what the laws hand to the program -/
mutual
/-- numbers below 10 ^ 40, plain texts, tuples and frozen lists, not too deep or long -/
def Val.nice : Nat → Val → Bool
  | _, .non => true
  | _, .bl _ => true
  | _, .int i => decide (-10 ^ 40 ≤ i) && decide (i ≤ 10 ^ 40)
  | _, .str z => PyData.canLay0 (.str z)
  | 0, .tup _ => false
  | n + 1, .tup xs => decide (xs.length ≤ 1000) && niceL n xs
  | 0, .lst _ _ => false
  | n + 1, .lst m xs => !m && decide (xs.length ≤ 1000) && niceL n xs
  | _, .dct _ _ _ _ => false
  | _, .scr _ => false
def niceL : Nat → List Val → Bool
  | _, [] => true
  | n, x :: r => x.nice n && niceL n r
end
theorem niceL_all (n : Nat) : ∀ xs : List Val, niceL n xs = xs.all (Val.nice n)
  | [] => by simp [niceL]
  | x :: r => by simp [niceL, niceL_all n r]
mutual
theorem nice_pure : ∀ (n : Nat) (x : Val), x.nice n = true → x.pure = true
  | _, .non, _ => rfl
  | _, .bl _, _ => rfl
  | _, .int _, _ => rfl
  | _, .str _, _ => rfl
  | 0, .tup _, h => by simp [Val.nice] at h
  | n + 1, .tup xs, h => by
    simp only [Val.nice, Bool.and_eq_true] at h
    simp only [Val.pure]
    exact niceL_pure n xs h.2
  | 0, .lst _ _, h => by simp [Val.nice] at h
  | n + 1, .lst m xs, h => by
    simp only [Val.nice, Bool.and_eq_true] at h
    simp only [Val.pure, h.1.1, Bool.true_and]
    exact niceL_pure n xs h.2
  | _, .dct _ _ _ _, h => by simp [Val.nice] at h
  | _, .scr _, h => by simp [Val.nice] at h
theorem niceL_pure : ∀ (n : Nat) (xs : List Val), niceL n xs = true → pureL xs = true
  | _, [], _ => rfl
  | n, x :: r, h => by
    simp only [niceL, Bool.and_eq_true] at h
    simp only [pureL, nice_pure n x h.1, niceL_pure n r h.2, Bool.and_self]
end
mutual
theorem nice_depth : ∀ (n : Nat) (x : Val), x.nice n = true → x.toD.depth ≤ n ∧ x.toD.canLay0 = true
  | _, .non, _ => ⟨by simp [Val.toD, PyData.depth], by simp [Val.toD, PyData.canLay0]⟩
  | _, .bl _, _ => ⟨by simp [Val.toD, PyData.depth], by simp [Val.toD, PyData.canLay0]⟩
  | _, .int _, _ => ⟨by simp [Val.toD, PyData.depth], by simp [Val.toD, PyData.canLay0]⟩
  | _, .str _, h => ⟨by simp [Val.toD, PyData.depth], by simpa [Val.nice, Val.toD] using h⟩
  | 0, .tup _, h => by simp [Val.nice] at h
  | n + 1, .tup xs, h => by
    simp only [Val.nice, Bool.and_eq_true] at h
    have := niceL_depth n xs h.2
    simp only [Val.toD, PyData.depth, PyData.canLay0]
    exact ⟨by omega, this.2⟩
  | 0, .lst _ _, h => by simp [Val.nice] at h
  | n + 1, .lst m xs, h => by
    simp only [Val.nice, Bool.and_eq_true] at h
    have := niceL_depth n xs h.2
    simp only [Val.toD, PyData.depth, PyData.canLay0]
    exact ⟨by omega, this.2⟩
  | _, .dct _ _ _ _, h => by simp [Val.nice] at h
  | _, .scr _, h => by simp [Val.nice] at h
theorem niceL_depth : ∀ (n : Nat) (xs : List Val), niceL n xs = true → PyData.depthAll (toDL xs) ≤ n ∧ PyData.canLayAll0 (toDL xs) = true
  | _, [], _ => ⟨by simp [toDL, PyData.depthAll], by simp [toDL, PyData.canLayAll0]⟩
  | n, x :: r, h => by
    simp only [niceL, Bool.and_eq_true] at h
    have h1 := nice_depth n x h.1
    have h2 := niceL_depth n r h.2
    simp only [toDL, PyData.depthAll, PyData.canLayAll0, h1.2, h2.2, Bool.and_self, and_true]
    exact Nat.max_le.mpr ⟨h1.1, h2.1⟩
end
theorem nice_okD {n : Nat} {x : Val} (h : x.nice n = true) (hn : n ≤ 64) : okD x = true := by
  have := nice_depth n x h
  unfold okD SeqAt.shaped
  rw [Bool.and_eq_true, decide_eq_true_eq]
  exact ⟨this.2, Nat.le_trans this.1 hn⟩
mutual
theorem nice_up : ∀ (n : Nat) (x : Val), x.nice n = true → x.nice (n + 1) = true
  | n, .non, _ => by cases n <;> rfl
  | n, .bl _, _ => by cases n <;> rfl
  | n, .int _, h => by cases n <;> exact h
  | n, .str _, h => by cases n <;> exact h
  | 0, .tup _, h => by simp [Val.nice] at h
  | n + 1, .tup xs, h => by
    simp only [Val.nice, Bool.and_eq_true] at h ⊢
    exact ⟨h.1, niceL_up n xs h.2⟩
  | 0, .lst _ _, h => by simp [Val.nice] at h
  | n + 1, .lst m xs, h => by
    simp only [Val.nice, Bool.and_eq_true] at h ⊢
    exact ⟨h.1, niceL_up n xs h.2⟩
  | n, .dct _ _ _ _, h => by cases n <;> simp [Val.nice] at h
  | n, .scr _, h => by cases n <;> simp [Val.nice] at h
theorem niceL_up : ∀ (n : Nat) (xs : List Val), niceL n xs = true → niceL (n + 1) xs = true
  | n, [], _ => by cases n <;> rfl
  | n, x :: r, h => by
    simp only [niceL, Bool.and_eq_true] at h ⊢
    exact ⟨nice_up n x h.1, niceL_up n r h.2⟩
end
theorem nice_mono {n m : Nat} {x : Val} (h : x.nice n = true) (hm : n ≤ m) : x.nice m = true := by
  induction hm with
  | refl => exact h
  | step _ ih => exact nice_up _ _ ih
end MV
end

section
set_option maxHeartbeats 4000000
/-! rising lists, and lists that sorted(set(..)) leaves as they are -/
namespace MV
open PySem
def ltB (x y : Val) : Bool := PySem.W.dataLt x.toD y.toD
theorem leB_eq (x y : Val) : leB x y = !ltB y x := rfl
theorem ltB_irr (x : Val) : ltB x x = false := PyProof.Rows.lex_irrefl _
theorem ltB_trans {x y z : Val} (h1 : ltB x y = true) (h2 : ltB y z = true) : ltB x z = true :=
  (PyProof.Rows.listOrd PyProof.Rows.itemOrd).trans _ _ _ h1 h2
theorem ltB_le {x y : Val} (h : ltB x y = true) : leB x y = true := by
  rw [leB_eq]
  cases c : ltB y x with
  | false => rfl
  | true =>
    have := ltB_trans h c
    rw [ltB_irr] at this
    cases this
theorem ltB_int (i j : Int) : ltB (.int i) (.int j) = decide (i < j) := by
  simp only [ltB, Val.toD]
  exact PySem.W.dataLt_int i j
def riseL : List Val → Bool
  | x :: y :: r => ltB x y && riseL (y :: r)
  | _ => true
theorem rise_pair : ∀ {xs : List Val}, riseL xs = true → xs.Pairwise (fun x y => ltB x y = true)
  | [], _ => List.Pairwise.nil
  | [x], _ => List.pairwise_singleton _ _
  | x :: y :: r, h => by
    simp only [riseL, Bool.and_eq_true] at h
    have ih := rise_pair h.2
    refine List.pairwise_cons.mpr ⟨fun z hz => ?_, ih⟩
    rcases List.mem_cons.mp hz with rfl | hz
    · exact h.1
    · exact ltB_trans h.1 ((List.pairwise_cons.mp ih).1 z hz)
theorem rise_get : ∀ {xs : List Val}, riseL xs = true ↔ ∀ (i : Nat) (x y : Val), xs[i]? = some x → xs[i + 1]? = some y → ltB x y = true
  | [] => by simp [riseL]
  | [x] => by simp [riseL]
  | x :: y :: r => by
    simp only [riseL, Bool.and_eq_true]
    constructor
    · intro ⟨h1, h2⟩ i a b ha hb
      cases i with
      | zero =>
        simp at ha hb
        rw [← ha, ← hb]; exact h1
      | succ i => exact (rise_get.mp h2) i a b (by simpa using ha) (by simpa using hb)
    · intro h
      exact ⟨h 0 x y rfl rfl, rise_get.mpr fun i a b ha hb => h (i + 1) a b (by simpa using ha) (by simpa using hb)⟩
theorem rise_nodup {xs : List Val} (h : riseL xs = true) (ha : alikeL xs = true) (hk : ∀ x ∈ xs, (x.nkey).isSome = true) : (xs.map Val.nkey).Nodup := by
  refine List.pairwise_map.mpr (List.Pairwise.imp_of_mem (fun {x y} hx hy hlt e => ?_) (rise_pair h))
  obtain ⟨k, ek⟩ := Option.isSome_iff_exists.mp (hk x hx)
  have := key_one x y k ek (e ▸ ek) (alikeL_of ha hx hy)
  rw [this, ltB_irr] at hlt
  cases hlt
theorem rise_sorted {xs : List Val} (h : riseL xs = true) (ha : alikeL xs = true) (hk : ∀ x ∈ xs, (x.nkey).isSome = true) : (dedV xs).mergeSort leB = xs := by
  rw [dedV_of_nodup (rise_nodup h ha hk)]
  exact List.mergeSort_of_pairwise ((rise_pair h).imp fun h => ltB_le h)
theorem sorted_rise {xs : List Val} (ha : alikeL xs = true) (hk : ∀ x ∈ xs, (x.nkey).isSome = true) : riseL ((dedV xs).mergeSort leB) = true := by
  have pm := List.mergeSort_perm (dedV xs) leB
  have inXs : ∀ y ∈ (dedV xs).mergeSort leB, y ∈ xs := fun y hy => dedV_sub xs y (pm.mem_iff.mp hy)
  have nd : (((dedV xs).mergeSort leB).map Val.nkey).Nodup := (pm.map Val.nkey).nodup_iff.mpr (dedV_nodup xs)
  have pw := PySem.W.sort_pairwise leB_total (dedV xs)
  refine rise_get.mpr fun i x y hx hy => ?_
  have mx := inXs x (List.mem_of_getElem? hx)
  have my := inXs y (List.mem_of_getElem? hy)
  cases c : ltB x y with
  | true => rfl
  | false =>
    exfalso
    obtain ⟨k, ek⟩ := Option.isSome_iff_exists.mp (hk x mx)
    have hi : i + 1 < ((dedV xs).mergeSort leB).length := (List.getElem?_eq_some_iff.mp hy).1
    have le1 : leB x y = true := by
      have := List.pairwise_iff_getElem.mp pw i (i + 1) (by omega) hi (by omega)
      rwa [(List.getElem?_eq_some_iff.mp hx).2, (List.getElem?_eq_some_iff.mp hy).2] at this
    have e := leB_anti ek (alikeL_of ha mx my) le1 (by rw [leB_eq, c]; rfl)
    have n2 := List.pairwise_iff_getElem.mp nd i (i + 1) (by simpa using Nat.lt_of_succ_lt hi) (by simpa using hi) (by omega)
    simp only [List.getElem_map, (List.getElem?_eq_some_iff.mp hx).2, (List.getElem?_eq_some_iff.mp hy).2] at n2
    exact n2 (by rw [e])
theorem sort_same {xs : List Val} (ha : alikeL xs = true) (hk : ∀ x ∈ xs, (x.nkey).isSome = true) : ((dedV xs).mergeSort leB = xs) ↔ riseL xs = true :=
  ⟨fun e => by rw [← e]; exact sorted_rise ha hk, fun h => rise_sorted h ha hk⟩

/-! == of lists of keys -/
theorem alikeAll_of {xs ys : List Val} : ∀ (zs us : List Val), (∀ x ∈ zs, ∀ y ∈ us, PySem.W.alike x.toD y.toD = true) → PySem.W.alikeAll (toDL zs) (toDL us) = true
  | [], _, _ => by simp [toDL, PySem.W.alikeAll]
  | _ :: _, [], _ => by simp [toDL, PySem.W.alikeAll]
  | z :: zs, u :: us, h => by
    simp only [toDL, PySem.W.alikeAll, Bool.and_eq_true]
    exact ⟨h z List.mem_cons_self u List.mem_cons_self, alikeAll_of (xs := xs) (ys := ys) zs us fun x hx y hy => h x (List.mem_cons_of_mem _ hx) y (List.mem_cons_of_mem _ hy)⟩
theorem nkeyL_some : ∀ {xs : List Val}, (∀ x ∈ xs, (x.nkey).isSome = true) → ∃ ks, nkeyL xs = some ks
  | [], _ => ⟨[], rfl⟩
  | x :: r, h => by
    obtain ⟨k, ek⟩ := Option.isSome_iff_exists.mp (h x List.mem_cons_self)
    obtain ⟨ks, e⟩ := nkeyL_some fun y hy => h y (List.mem_cons_of_mem _ hy)
    exact ⟨k :: ks, by simp only [nkeyL, ek, e]⟩
/-- equal by == just if equal -/
theorem eqvL_iff {xs ys : List Val} (hk : ∀ x ∈ xs, (x.nkey).isSome = true) (ha : ∀ x ∈ xs, ∀ y ∈ ys, PySem.W.alike x.toD y.toD = true) (hl : PyData.canLayAll0 (toDL xs) = true) : PyData.eqvAll (toDL xs) (toDL ys) = true ↔ xs = ys := by
  obtain ⟨ks, ek⟩ := nkeyL_some hk
  have al := alikeAll_of (xs := xs) (ys := ys) xs ys ha
  constructor
  · intro c
    exact keys_one xs ys ks ek (keys_eqv xs ys ks al c ek) al
  · rintro rfl
    have : PyData.eqv (.tuple (toDL xs)) (.tuple (toDL xs)) = true := SeqAt.eqv_refl _ (by simpa [PyData.canLay0] using hl)
    simpa only [PyData.eqv] using this
/-- list(xs) == sorted(set(xs)) -/
theorem eq_sorted {m : Bool} {xs : List Val} (ok : setOk xs = true) (dp : ∀ x ∈ xs, x.toD.depth ≤ 8) (hl : PyData.canLayAll0 (toDL xs) = true) : eqV (.lst m xs) (.lst true ((dedV xs).mergeSort leB)) = some (.bl (riseL xs)) := by
  have keys := setOk_keys ok
  have pm := List.mergeSort_perm (dedV xs) leB
  have inXs : ∀ y ∈ (dedV xs).mergeSort leB, y ∈ xs := fun y hy => dedV_sub xs y (pm.mem_iff.mp hy)
  have lay : ∀ ys : List Val, (∀ y ∈ ys, y ∈ xs) → PyData.canLayAll0 (toDL ys) = true ∧ PyData.depthAll (toDL ys) ≤ 8 := by
    intro ys
    induction ys with
    | nil => intro _; exact ⟨by simp [toDL, PyData.canLayAll0], by simp [toDL, PyData.depthAll]⟩
    | cons y r ih =>
      intro h
      have h1 := ih fun z hz => h z (List.mem_cons_of_mem _ hz)
      have hy := h y List.mem_cons_self
      have all0 : ∀ (zs : List Val), PyData.canLayAll0 (toDL zs) = true → ∀ z ∈ zs, z.toD.canLay0 = true := by
        intro zs
        induction zs with
        | nil => intro _ z hz; cases hz
        | cons w ws ihw =>
          intro hc z hz
          simp only [toDL, PyData.canLayAll0, Bool.and_eq_true] at hc
          rcases List.mem_cons.mp hz with rfl | hz
          · exact hc.1
          · exact ihw hc.2 z hz
      simp only [toDL, PyData.canLayAll0, PyData.depthAll, h1.1, all0 xs hl y hy, Bool.and_self, true_and]
      exact Nat.max_le.mpr ⟨dp y hy, h1.2⟩
  have l1 := lay xs fun _ z => z
  have l2 := lay _ inXs
  have k1 : okD (.lst m xs) = true := by
    unfold okD SeqAt.shaped
    simp only [Val.toD, PyData.canLay0, PyData.depth, Bool.and_eq_true, decide_eq_true_eq]
    exact ⟨l1.1, by omega⟩
  have k2 : okD (.lst true ((dedV xs).mergeSort leB)) = true := by
    unfold okD SeqAt.shaped
    simp only [Val.toD, PyData.canLay0, PyData.depth, Bool.and_eq_true, decide_eq_true_eq]
    exact ⟨l2.1, by omega⟩
  have e : eqV (.lst m xs) (.lst true ((dedV xs).mergeSort leB)) = some (.bl (PyData.eqvAll (toDL xs) (toDL ((dedV xs).mergeSort leB)))) := by
    simp only [eqV, k1, k2, Bool.and_self, if_true, Val.toD, PyData.eqv]
  have iff := eqvL_iff (ys := (dedV xs).mergeSort leB) keys.2.1 (fun x hx y hy => alikeL_of keys.1 hx (inXs y hy)) hl
  rw [e]
  congr 2
  cases c : riseL xs with
  | true => exact iff.mpr ((sort_same keys.1 keys.2.1).mpr c).symm
  | false =>
    cases d : PyData.eqvAll (toDL xs) (toDL ((dedV xs).mergeSort leB)) with
    | false => rfl
    | true =>
      rw [(sort_same keys.1 keys.2.1).mp (iff.mp d).symm] at c
      cases c
end MV
end

section
set_option maxHeartbeats 4000000
/-! mirrors applied to slots (printed by gen22.py) -/
namespace MV
open PySem
theorem ap_fnM (m : Nat) (B : Sv) (xs : List Val)  : MV.fnM m B xs  = (B (xs.map some ++ List.replicate m none)).bind fun p => match p.1 with
  | .ret r => some r
  | .next => some .non
  | _ => none := by first | rfl | (unfold MV.fnM; rfl)
theorem ap_fnIO (m : Nat) (B : Sv) (xs : List Val)  : MV.fnIO m B xs  = (B (xs.map some ++ List.replicate m none)).bind fun p => (p.2[0]?).bind fun o => o.bind fun y => match p.1 with
  | .ret r => some (r, y)
  | .next => some (.non, y)
  | _ => none := by first | rfl | (unfold MV.fnIO; rfl)
theorem ap_seqM (A B : Sv) (τ : Sl) : MV.seqM A B τ = (A τ).bind fun p => match p.1 with
  | .next => B p.2
  | f => some (f, p.2) := by first | rfl | (unfold MV.seqM; rfl)
theorem ap_ifM (T : Tv) (A B : Sv) (τ : Sl) : MV.ifM T A B τ = (T τ).bind fun p => if p.1 = true then A p.2 else B p.2 := by first | rfl | (unfold MV.ifM; rfl)
theorem ap_setM (i : Nat) (D : Ev) (τ : Sl) : MV.setM i D τ = (D τ).bind fun p => some (.next, p.2.set i (some p.1)) := by first | rfl | (unfold MV.setM; rfl)
theorem ap_retM (D : Ev) (τ : Sl) : MV.retM D τ = (D τ).bind fun p => some (.ret p.1, p.2) := by first | rfl | (unfold MV.retM; rfl)
theorem ap_dropM (D : Ev) (τ : Sl) : MV.dropM D τ = (D τ).bind fun p => some (.next, p.2) := by first | rfl | (unfold MV.dropM; rfl)
theorem ap_brkM  (τ : Sl) : MV.brkM  τ = some (.brk, τ) := by first | rfl | (unfold MV.brkM; rfl)
theorem ap_contM  (τ : Sl) : MV.contM  τ = some (.cont, τ) := by first | rfl | (unfold MV.contM; rfl)
theorem ap_failM  (τ : Sl) : MV.failM  τ = none := by first | rfl | (unfold MV.failM; rfl)
theorem ap_nextM  (τ : Sl) : MV.nextM  τ = some (.next, τ) := by first | rfl | (unfold MV.nextM; rfl)
theorem ap_tst (D : Ev) (τ : Sl) : MV.tst D τ = (D τ).bind fun p => (p.1.bool?).bind fun c => some (c, p.2) := by first | rfl | (unfold MV.tst; rfl)
theorem ap_c1 (g : Val → Option Val) (D : Ev) (τ : Sl) : MV.c1 g D τ = (D τ).bind fun p => (g p.1).bind fun z => some (z, p.2) := by first | rfl | (unfold MV.c1; rfl)
theorem ap_c2 (g : Val → Val → Option Val) (Da Db : Ev) (τ : Sl) : MV.c2 g Da Db τ = (Da τ).bind fun p => (Db p.2).bind fun r => (g p.1 r.1).bind fun z => some (z, r.2) := by first | rfl | (unfold MV.c2; rfl)
theorem ap_cN (g : List Val → Option Val) (Ds : Evs) (τ : Sl) : MV.cN g Ds τ = (Ds τ).bind fun p => (g p.1).bind fun z => some (z, p.2) := by first | rfl | (unfold MV.cN; rfl)
theorem ap_consM (D : Ev) (Ds : Evs) (τ : Sl) : MV.consM D Ds τ = (D τ).bind fun p => (Ds p.2).bind fun r => some (p.1 :: r.1, r.2) := by first | rfl | (unfold MV.consM; rfl)
theorem ap_nilM  (τ : Sl) : MV.nilM  τ = some ([], τ) := by first | rfl | (unfold MV.nilM; rfl)
theorem ap_rdO (i : Nat) (τ : Sl) : MV.rdO i τ = (τ[i]?).bind fun o => o.bind fun x => some (x, τ) := by first | rfl | (unfold MV.rdO; rfl)
theorem ap_rdE (i : Nat) (τ : Sl) : MV.rdE i τ = (τ[i]?).bind fun o => o.bind fun x => if x.pure = true then some (x, τ) else some (x.frz, τ.set i (some x.frz)) := by first | rfl | (unfold MV.rdE; rfl)
theorem ap_mvE (i : Nat) (τ : Sl) : MV.mvE i τ = (τ[i]?).bind fun o => o.bind fun x => some (x, τ.set i none) := by first | rfl | (unfold MV.mvE; rfl)
theorem ap_cC (x : Val) (τ : Sl) : MV.cC x τ = some (x, τ) := by first | rfl | (unfold MV.cC; rfl)
theorem ap_setItemM (i : Nat) (Dk De : Ev) (τ : Sl) : MV.setItemM i Dk De τ = (De τ).bind fun p => (p.2[i]?).bind fun o => o.bind fun _ => (Dk p.2).bind fun r => (r.2[i]?).bind fun o => o.bind fun x => match x, r.1 with
  | .lst true xs, .int k => if (p.1.pure && pureL xs) = true then (L2.ixN xs.length k).bind fun j => some (.next, r.2.set i (some (.lst true (xs.set j p.1)))) else none
  | _, _ => none := by first | rfl | (unfold MV.setItemM; rfl)
theorem ap_parM (i j : Nat) (Ds : Evs) (τ : Sl) : MV.parM i j Ds τ = (Ds τ).bind fun p => match p.1 with
  | [x, y] => some (.next, (p.2.set i (some x)).set j (some y))
  | _ => none := by first | rfl | (unfold MV.parM; rfl)
theorem ap_parM3 (i j k : Nat) (Ds : Evs) (τ : Sl) : MV.parM3 i j k Ds τ = (Ds τ).bind fun p => match p.1 with
  | [x, y, z] => some (.next, ((p.2.set i (some x)).set j (some y)).set k (some z))
  | _ => none := by first | rfl | (unfold MV.parM3; rfl)
theorem ap_ifV (T : Tv) (A B : Ev) (τ : Sl) : MV.ifV T A B τ = (T τ).bind fun p => if p.1 = true then A p.2 else B p.2 := by first | rfl | (unfold MV.ifV; rfl)
theorem ap_callM (f : List Val → Option Val) (Ds : Evs) (τ : Sl) : MV.callM f Ds τ = (Ds τ).bind fun p => (f (frzL p.1)).bind fun r => if (pureL p.1 || r.own) = true then some (r, p.2) else none := by first | rfl | (unfold MV.callM; rfl)
theorem ap_callIO (f : List Val → Option (Val × Val)) (i : Nat) (Ds : Evs) (τ : Sl) : MV.callIO f i Ds τ = (τ[i]?).bind fun o => o.bind fun _ => (Ds τ).bind fun p => (p.2[i]?).bind fun o => o.bind fun y => if pureL p.1 = true then (f (y :: p.1)).bind fun r => some (r.1, p.2.set i (some r.2)) else none := by first | rfl | (unfold MV.callIO; rfl)
theorem ap_andM (A B : Tv) (τ : Sl) : MV.andM A B τ = (A τ).bind fun p => if p.1 = true then B p.2 else some (false, p.2) := by first | rfl | (unfold MV.andM; rfl)
theorem ap_orM (A B : Tv) (τ : Sl) : MV.orM A B τ = (A τ).bind fun p => if p.1 = true then some (true, p.2) else B p.2 := by first | rfl | (unfold MV.orM; rfl)
theorem ap_notM (A : Tv) (τ : Sl) : MV.notM A τ = (A τ).bind fun p => some (!p.1, p.2) := by first | rfl | (unfold MV.notM; rfl)
theorem ap_andV (A B : Ev) (τ : Sl) : MV.andV A B τ = (A τ).bind fun p => (p.1.bool?).bind fun c => if c = true then B p.2 else some (.bl false, p.2) := by first | rfl | (unfold MV.andV; rfl)
theorem ap_orV (A B : Ev) (τ : Sl) : MV.orV A B τ = (A τ).bind fun p => (p.1.bool?).bind fun c => if c = true then some (.bl true, p.2) else B p.2 := by first | rfl | (unfold MV.orV; rfl)
theorem ap_notV (A : Ev) (τ : Sl) : MV.notV A τ = (A τ).bind fun p => (p.1.bool?).bind fun c => some (.bl (!c), p.2) := by first | rfl | (unfold MV.notV; rfl)
theorem ap_chM (g g' : Val → Val → Option Val) (Da Db Dc : Ev) (τ : Sl) : MV.chM g g' Da Db Dc τ = (Da τ).bind fun p => (Db p.2).bind fun r => (g p.1 r.1).bind fun z => (z.bool?).bind fun k =>
  if k = true then (Dc r.2).bind fun t => (g' r.1 t.1).bind fun y => some (y, t.2) else some (.bl false, r.2) := by first | rfl | (unfold MV.chM; rfl)
theorem ap_asgM (T : Tg) (D : Ev) (τ : Sl) : MV.asgM T D τ = (D τ).bind fun p => (T p.1 p.2).bind fun τ' => some (.next, τ') := by first | rfl | (unfold MV.asgM; rfl)
theorem ap_consT (T : Tg) (U : Tgs) (xs : List Val) (τ : Sl) : MV.consT T U xs τ = match xs with
  | x :: r => (T x τ).bind fun τ1 => U r τ1
  | [] => none := by first | rfl | (unfold MV.consT; rfl)
theorem ap_nilT  (xs : List Val) (τ : Sl) : MV.nilT  xs τ = if xs.isEmpty = true then some τ else none := by first | rfl | (unfold MV.nilT; rfl)
theorem ap_nameT (i : Nat) (x : Val) (τ : Sl) : MV.nameT i x τ = some (τ.set i (some x)) := by first | rfl | (unfold MV.nameT; rfl)
theorem ap_tupT (n : Nat) (U : Tgs) (x : Val) (τ : Sl) : MV.tupT n U x τ = match x with
  | .tup xs => if xs.length = n then U xs τ else none
  | _ => none := by first | rfl | (unfold MV.tupT; rfl)
theorem ap_frE (D : Ev) (τ : Sl) : MV.frE D τ = (D τ).bind fun p => some (p.1.frz, p.2) := by first | rfl | (unfold MV.frE; rfl)
theorem ap_forM (I : Evs) (T : Tg) (B : Sv) (τ : Sl) : MV.forM I T B τ = (I τ).bind fun p => forL T B p.1 p.2 := by first | rfl | (unfold MV.forM; rfl)
theorem ap_lcM (I : Evs) (T : Tg) (C : Tv) (E : Ev) (own : List Nat) (τ : Sl) : MV.lcM I T C E own τ = (I τ).bind fun p => (lcL T C E own p.1 (wipeM p.2 own)).bind fun r => if r.1.length ≤ sizeLine then some (.lst true r.1, r.2) else none := by first | rfl | (unfold MV.lcM; rfl)
theorem ap_cSl (D : Ev) (A B : Pv) (τ : Sl) : MV.cSl D A B τ = (D τ).bind fun p => (A p.2).bind fun a => (B a.2).bind fun b => (sliceV p.1 a.1 b.1).bind fun z => some (z, b.2) := by first | rfl | (unfold MV.cSl; rfl)
theorem ap_partS (D : Ev) (τ : Sl) : MV.partS D τ = (D τ).bind fun p => (p.1.int?).bind fun i => some (some i, p.2) := by first | rfl | (unfold MV.partS; rfl)
theorem ap_partN  (τ : Sl) : MV.partN  τ = some (none, τ) := by first | rfl | (unfold MV.partN; rfl)
theorem ap_rng1I (Ds : Evs) (τ : Sl) : MV.rng1I Ds τ = (Ds τ).bind fun p => match p.1 with
  | [.int j] => if inR j = true then some (rngL 0 j, p.2) else none
  | _ => none := by first | rfl | (unfold MV.rng1I; rfl)
theorem ap_rng2I (Ds : Evs) (τ : Sl) : MV.rng2I Ds τ = (Ds τ).bind fun p => match p.1 with
  | [.int i, .int j] => if (inR i && inR j) = true then some (rngL i j, p.2) else none
  | _ => none := by first | rfl | (unfold MV.rng2I; rfl)
theorem ap_seqI (D : Ev) (τ : Sl) : MV.seqI D τ = (D τ).bind fun p => (p.1.seq?).bind fun xs => some (frzL xs, p.2) := by first | rfl | (unfold MV.seqI; rfl)
theorem ap_enumI (D : Ev) (τ : Sl) : MV.enumI D τ = (D τ).bind fun p => (p.1.seq?).bind fun xs => some (enumF 0 (frzL xs), p.2) := by first | rfl | (unfold MV.enumI; rfl)
theorem ap_zipI (Ds : Evs) (τ : Sl) : MV.zipI Ds τ = (Ds τ).bind fun p => match p.1 with
  | [.lst _ xs, .lst _ ys] => some (zipF (frzL xs) (frzL ys), p.2)
  | [.tup xs, .tup ys] => some (zipF (frzL xs) (frzL ys), p.2)
  | _ => none := by first | rfl | (unfold MV.zipI; rfl)
theorem ap_lstI (D : Ev) (τ : Sl) : MV.lstI D τ = (D τ).bind fun p => match p.1 with
  | .lst _ xs => some (frzL xs, p.2)
  | _ => none := by first | rfl | (unfold MV.lstI; rfl)
theorem ap_tupI (D : Ev) (τ : Sl) : MV.tupI D τ = (D τ).bind fun p => match p.1 with
  | .tup xs => some (frzL xs, p.2)
  | _ => none := by first | rfl | (unfold MV.tupI; rfl)
theorem ap_yesM  (τ : Sl) : MV.yesM  τ = some (true, τ) := by first | rfl | (unfold MV.yesM; rfl)
end MV
end

section
set_option maxHeartbeats 4000000
/-! mirrors run, rule by rule -/
namespace MV
open PySem
section
variable {τ τ1 τ2 τ3 : Sl} {x y z : Val} {xs ys : List Val} {D Da Db Dc : Ev} {Ds : Evs} {i j : Nat} {A B T U : Tv} {b c : Bool}
theorem s_cC : cC x τ = some (x, τ) := rfl
theorem s_rdO (h : τ[i]? = some (some x)) : rdO i τ = some (x, τ) := by rw [ap_rdO, h]; rfl
theorem s_rdE (h : τ[i]? = some (some x)) (p : x.pure = true) : rdE i τ = some (x, τ) := by rw [ap_rdE, h]; simp only [Option.bind_some, p, if_true]
theorem s_rdEf (h : τ[i]? = some (some x)) (p : x.pure = false) : rdE i τ = some (x.frz, τ.set i (some x.frz)) := by rw [ap_rdE, h]; simp only [Option.bind_some, p, Bool.false_eq_true, if_false]
theorem s_mvE (h : τ[i]? = some (some x)) : mvE i τ = some (x, τ.set i none) := by rw [ap_mvE, h]; rfl
theorem s_nil : nilM τ = some ([], τ) := rfl
theorem s_cons (h1 : D τ = some (x, τ1)) (h2 : Ds τ1 = some (xs, τ2)) : consM D Ds τ = some (x :: xs, τ2) := by rw [ap_consM, h1]; simp only [Option.bind_some, h2]
theorem s_c1 {g : Val → Option Val} (h1 : D τ = some (x, τ1)) (h : g x = some z) : c1 g D τ = some (z, τ1) := by rw [ap_c1, h1]; simp only [Option.bind_some, h]
theorem s_c2 {g : Val → Val → Option Val} (h1 : Da τ = some (x, τ1)) (h2 : Db τ1 = some (y, τ2)) (h : g x y = some z) : c2 g Da Db τ = some (z, τ2) := by rw [ap_c2, h1]; simp only [Option.bind_some, h2, h]
theorem s_cN {g : List Val → Option Val} (h1 : Ds τ = some (xs, τ1)) (h : g xs = some z) : cN g Ds τ = some (z, τ1) := by rw [ap_cN, h1]; simp only [Option.bind_some, h]
theorem s_fr (h1 : D τ = some (x, τ1)) : frE D τ = some (x.frz, τ1) := by rw [ap_frE, h1]; rfl
theorem s_callM {f : List Val → Option Val} (h1 : Ds τ = some (xs, τ1)) (p : pureL xs = true) (h : f xs = some z) : callM f Ds τ = some (z, τ1) := by
  rw [ap_callM, h1]
  simp only [Option.bind_some, frzL_of_pure xs p, h, p, Bool.true_or, if_true]
theorem s_callMo {f : List Val → Option Val} (h1 : Ds τ = some (xs, τ1)) (h : f (frzL xs) = some z) (p : z.own = true) : callM f Ds τ = some (z, τ1) := by
  rw [ap_callM, h1]
  simp only [Option.bind_some, h, p, Bool.or_true, if_true]
theorem s_callIO {f : List Val → Option (Val × Val)} {y' y0 : Val} (h0 : τ[i]? = some (some y0)) (h1 : Ds τ = some (xs, τ1)) (h2 : τ1[i]? = some (some y)) (p : pureL xs = true) (h : f (y :: xs) = some (z, y')) : callIO f i Ds τ = some (z, τ1.set i (some y')) := by
  rw [ap_callIO, h0]
  simp only [Option.bind_some, h1, h2, p, if_true, h]
theorem s_tst (h : D τ = some (.bl b, τ1)) : tst D τ = some (b, τ1) := by rw [ap_tst, h]; rfl
theorem s_not (h : A τ = some (b, τ1)) : MV.notM A τ = some (!b, τ1) := by rw [ap_notM, h]; rfl
theorem s_and1 (h : A τ = some (false, τ1)) : MV.andM A B τ = some (false, τ1) := by rw [ap_andM, h]; rfl
theorem s_and2 (h : A τ = some (true, τ1)) (h2 : B τ1 = some (b, τ2)) : MV.andM A B τ = some (b, τ2) := by rw [ap_andM, h]; simpa using h2
theorem s_or1 (h : A τ = some (true, τ1)) : MV.orM A B τ = some (true, τ1) := by rw [ap_orM, h]; rfl
theorem s_or2 (h : A τ = some (false, τ1)) (h2 : B τ1 = some (b, τ2)) : MV.orM A B τ = some (b, τ2) := by rw [ap_orM, h]; simpa using h2
theorem s_vand1 (h : Da τ = some (.bl false, τ1)) : andV Da Db τ = some (.bl false, τ1) := by rw [ap_andV, h]; rfl
theorem s_vand2 (h : Da τ = some (.bl true, τ1)) (h2 : Db τ1 = some (x, τ2)) : andV Da Db τ = some (x, τ2) := by rw [ap_andV, h]; simpa [Val.bool?] using h2
theorem s_vor1 (h : Da τ = some (.bl true, τ1)) : orV Da Db τ = some (.bl true, τ1) := by rw [ap_orV, h]; rfl
theorem s_vor2 (h : Da τ = some (.bl false, τ1)) (h2 : Db τ1 = some (x, τ2)) : orV Da Db τ = some (x, τ2) := by rw [ap_orV, h]; simpa [Val.bool?] using h2
theorem s_vnot (h : Da τ = some (.bl b, τ1)) : notV Da τ = some (.bl (!b), τ1) := by rw [ap_notV, h]; rfl
theorem s_if1 (h : A τ = some (true, τ1)) (h2 : Da τ1 = some (x, τ2)) : ifV A Da Db τ = some (x, τ2) := by rw [ap_ifV, h]; simpa using h2
theorem s_if2 (h : A τ = some (false, τ1)) (h2 : Db τ1 = some (x, τ2)) : ifV A Da Db τ = some (x, τ2) := by rw [ap_ifV, h]; simpa using h2
theorem s_ch1 {g g' : Val → Val → Option Val} (h1 : Da τ = some (x, τ1)) (h2 : Db τ1 = some (y, τ2)) (h : g x y = some (.bl false)) : chM g g' Da Db Dc τ = some (.bl false, τ2) := by
  rw [ap_chM, h1]; simp only [Option.bind_some, h2, h, Val.bool?, Bool.false_eq_true, if_false]
theorem s_ch2 {g g' : Val → Val → Option Val} {w : Val} (h1 : Da τ = some (x, τ1)) (h2 : Db τ1 = some (y, τ2)) (h : g x y = some (.bl true)) (h3 : Dc τ2 = some (z, τ3)) (h' : g' y z = some w) : chM g g' Da Db Dc τ = some (w, τ3) := by
  rw [ap_chM, h1]; simp only [Option.bind_some, h2, h, Val.bool?, if_true, h3, h']
theorem s_sl {L R : Pv} {lo hi : Option Int} (h1 : D τ = some (x, τ1)) (h2 : L τ1 = some (lo, τ2)) (h3 : R τ2 = some (hi, τ3)) (h : sliceV x lo hi = some z) : cSl D L R τ = some (z, τ3) := by
  rw [ap_cSl, h1]; simp only [Option.bind_some, h2, h3, h]
theorem s_pN : partN τ = some (none, τ) := rfl
theorem s_pS {k : Int} (h : D τ = some (.int k, τ1)) : partS D τ = some (some k, τ1) := by rw [ap_partS, h]; rfl
/-! statements -/
variable {S S1 S2 : Sv} {p : Fl × Sl} {v : Val}
theorem s_seq (h : S τ = some (.next, τ1)) (h2 : S1 τ1 = some p) : seqM S S1 τ = some p := by rw [ap_seqM, h]; simpa using h2
theorem s_seqR (h : S τ = some (.ret v, τ1)) : seqM S S1 τ = some (.ret v, τ1) := by rw [ap_seqM, h]; rfl
theorem s_ret (h : D τ = some (v, τ1)) : retM D τ = some (.ret v, τ1) := by rw [ap_retM, h]; rfl
theorem s_set (h : D τ = some (v, τ1)) : setM i D τ = some (.next, τ1.set i (some v)) := by rw [ap_setM, h]; rfl
theorem s_drop (h : D τ = some (v, τ1)) : dropM D τ = some (.next, τ1) := by rw [ap_dropM, h]; rfl
theorem s_par (h : Ds τ = some ([x, y], τ1)) : parM i j Ds τ = some (.next, (τ1.set i (some x)).set j (some y)) := by rw [ap_parM, h]; rfl
theorem s_next : nextM τ = some (.next, τ) := rfl
theorem s_ifT (h : A τ = some (true, τ1)) (h2 : S τ1 = some p) : ifM A S S1 τ = some p := by rw [ap_ifM, h]; simpa using h2
theorem s_ifF (h : A τ = some (false, τ1)) (h2 : S1 τ1 = some p) : ifM A S S1 τ = some p := by rw [ap_ifM, h]; simpa using h2
theorem s_asg {G : Tg} (h : D τ = some (v, τ1)) (h2 : G v τ1 = some τ2) : asgM G D τ = some (.next, τ2) := by rw [ap_asgM, h]; simp only [Option.bind_some, h2]
theorem s_fn {m : Nat} (h : S (xs.map some ++ List.replicate m none) = some (.ret v, τ)) : fnM m S xs = some v := by rw [ap_fnM, h]; rfl
theorem s_fnN {m : Nat} (h : S (xs.map some ++ List.replicate m none) = some (.next, τ)) : fnM m S xs = some .non := by rw [ap_fnM, h]; rfl
theorem s_fnIO {m : Nat} (h : S (xs.map some ++ List.replicate m none) = some (.ret v, τ)) (h0 : τ[0]? = some (some y)) : fnIO m S xs = some (v, y) := by rw [ap_fnIO, h]; simp only [Option.bind_some, h0]
theorem s_for {I : Evs} {G : Tg} (h : I τ = some (xs, τ1)) (h2 : forL G S xs τ1 = some p) : forM I G S τ = some p := by rw [ap_forM, h]; exact h2
theorem s_lc {I : Evs} {G : Tg} {own : List Nat} (h : I τ = some (xs, τ1)) (h2 : lcL G A D own xs (wipeM τ1 own) = some (ys, τ2)) (hl : ys.length ≤ sizeLine) : lcM I G A D own τ = some (.lst true ys, τ2) := by
  rw [ap_lcM, h]; simp only [Option.bind_some, h2, hl, if_true]
theorem s_rng1 {k : Int} (h : Ds τ = some ([.int k], τ1)) (hk : inR k = true) : rng1I Ds τ = some (rngL 0 k, τ1) := by rw [ap_rng1I, h]; simp only [Option.bind_some, hk, if_true]
theorem s_rng2 {k l : Int} (h : Ds τ = some ([.int k, .int l], τ1)) (hk : inR k = true) (hl : inR l = true) : rng2I Ds τ = some (rngL k l, τ1) := by rw [ap_rng2I, h]; simp only [Option.bind_some, hk, hl, Bool.and_self, if_true]
theorem s_seqI (h : D τ = some (x, τ1)) (h2 : x.seq? = some xs) : seqI D τ = some (frzL xs, τ1) := by rw [ap_seqI, h]; simp only [Option.bind_some, h2]
theorem s_enumI (h : D τ = some (x, τ1)) (h2 : x.seq? = some xs) : enumI D τ = some (enumF 0 (frzL xs), τ1) := by rw [ap_enumI, h]; simp only [Option.bind_some, h2]
theorem s_zipT (h : Ds τ = some ([.tup xs, .tup ys], τ1)) : zipI Ds τ = some (zipF (frzL xs) (frzL ys), τ1) := by rw [ap_zipI, h]; rfl
theorem s_zipL {m m' : Bool} (h : Ds τ = some ([.lst m xs, .lst m' ys], τ1)) : zipI Ds τ = some (zipF (frzL xs) (frzL ys), τ1) := by rw [ap_zipI, h]; rfl
theorem mkTup_ok (h : xs.length ≤ 1000) : mkTup xs = some (.tup xs) := by unfold mkTup; rw [if_pos (by rw [sizeLine_eq]; omega)]
theorem mkLst_ok (h : xs.length ≤ 1000) : mkLst xs = some (.lst true xs) := by unfold mkLst; rw [if_pos (by rw [sizeLine_eq]; omega)]
theorem pureO_ok {o : Option Val} (h : o = some x) (p : x.pure = true) : pureO o = some x := by rw [h]; unfold pureO; simp only [Option.bind_some, p, if_true]
theorem inR_of {k : Int} (h : -1000000 ≤ k) (h2 : k ≤ 1000000) : inR k = true := by
  unfold inR
  rw [Bool.and_eq_true, decide_eq_true_eq, decide_eq_true_eq]
  constructor <;> omega
end
end MV
end

section
set_option maxHeartbeats 4000000
/-! values that can be keys, to a depth -/
namespace MV
open PySem
mutual
def Val.kd : Nat → Val → Bool
  | _, .non => true
  | _, .bl _ => true
  | _, .int _ => true
  | _, .str z => PyData.canLay0 (.str z)
  | 0, .tup _ => false
  | n + 1, .tup xs => kdL n xs
  | _, .lst _ _ => false
  | _, .dct _ _ _ _ => false
  | _, .scr _ => false
def kdL : Nat → List Val → Bool
  | _, [] => true
  | n, x :: r => x.kd n && kdL n r
end
theorem kdL_all (n : Nat) : ∀ xs : List Val, kdL n xs = xs.all (Val.kd n)
  | [] => by simp [kdL]
  | x :: r => by simp [kdL, kdL_all n r]
mutual
theorem kd_key : ∀ (n : Nat) (x : Val), x.kd n = true → ∃ k, x.nkey = some k ∧ k.depth ≤ n ∧ x.toD.depth ≤ n ∧ x.toD.canLay0 = true
  | _, .non, _ => ⟨_, rfl, by simp [NestedKey.depth], by simp [Val.toD, PyData.depth], by simp [Val.toD, PyData.canLay0]⟩
  | _, .bl _, _ => ⟨_, rfl, by simp [NestedKey.depth], by simp [Val.toD, PyData.depth], by simp [Val.toD, PyData.canLay0]⟩
  | _, .int _, _ => ⟨_, rfl, by simp [NestedKey.depth], by simp [Val.toD, PyData.depth], by simp [Val.toD, PyData.canLay0]⟩
  | _, .str _, h => ⟨_, rfl, by simp [NestedKey.depth], by simp [Val.toD, PyData.depth], by simpa [Val.kd, Val.toD] using h⟩
  | 0, .tup _, h => by simp [Val.kd] at h
  | n + 1, .tup xs, h => by
    simp only [Val.kd] at h
    obtain ⟨ks, h1, h2, h3, h4⟩ := kdL_keys n xs h
    refine ⟨.tup ks, by simp only [Val.nkey, h1, Option.map_some], ?_, ?_, ?_⟩
    · simp only [NestedKey.depth]; omega
    · simp only [Val.toD, PyData.depth]; omega
    · simp only [Val.toD, PyData.canLay0]; exact h4
  | _, .lst _ _, h => by simp [Val.kd] at h
  | _, .dct _ _ _ _, h => by simp [Val.kd] at h
  | _, .scr _, h => by simp [Val.kd] at h
theorem kdL_keys : ∀ (n : Nat) (xs : List Val), kdL n xs = true → ∃ ks, nkeyL xs = some ks ∧ NestedKey.depthAll ks ≤ n ∧ PyData.depthAll (toDL xs) ≤ n ∧ PyData.canLayAll0 (toDL xs) = true
  | _, [], _ => ⟨[], rfl, by simp [NestedKey.depthAll], by simp [toDL, PyData.depthAll], by simp [toDL, PyData.canLayAll0]⟩
  | n, x :: r, h => by
    simp only [kdL, Bool.and_eq_true] at h
    obtain ⟨k, a1, a2, a3, a4⟩ := kd_key n x h.1
    obtain ⟨ks, b1, b2, b3, b4⟩ := kdL_keys n r h.2
    refine ⟨k :: ks, by simp only [nkeyL, a1, b1], ?_, ?_, ?_⟩
    · simp only [NestedKey.depthAll]; exact Nat.max_le.mpr ⟨a2, b2⟩
    · simp only [toDL, PyData.depthAll]; exact Nat.max_le.mpr ⟨a3, b3⟩
    · simp only [toDL, PyData.canLayAll0, a4, b4, Bool.and_self]
end
theorem kd_pure {n : Nat} {x : Val} (h : x.kd n = true) : x.pure = true := let ⟨k, e, _⟩ := kd_key n x h; pure_of_key x k e
theorem kdL_pure {n : Nat} {xs : List Val} (h : kdL n xs = true) : pureL xs = true := let ⟨k, e, _⟩ := kdL_keys n xs h; pureL_of_keys xs k e
theorem kd_okD {n : Nat} {x : Val} (h : x.kd n = true) (hn : n ≤ 64) : okD x = true := by
  obtain ⟨k, _, _, h1, h2⟩ := kd_key n x h
  unfold okD SeqAt.shaped
  rw [Bool.and_eq_true, decide_eq_true_eq]
  exact ⟨h2, by omega⟩
theorem kd_row {y : Val} {r : List Val} (h : (Val.tup (y :: r)).kd 8 = true) : (Val.tup (y :: r)).row = true := by
  obtain ⟨k, h1, h2, h3, h4⟩ := kd_key 8 _ h
  unfold Val.row
  simp only [h1, h2, h3, h4, decide_true, Bool.and_self]
theorem dedV_length : ∀ xs : List Val, (dedV xs).length ≤ xs.length
  | [] => Nat.le_refl _
  | x :: r => by
    rw [dedV, List.length_cons, List.length_cons]
    exact Nat.succ_le_succ (Nat.le_trans (List.length_filter_le _ _) (dedV_length r))
/-- rows that can be made a set of -/
theorem setOk_rows {xs : List Val} (hr : ∀ x ∈ xs, x.row = true) (ha : alikeL xs = true) (hl : xs.length ≤ 4000) : setOk xs = true := by
  unfold setOk
  rw [Bool.or_eq_true]
  right
  rw [Bool.and_eq_true, Bool.and_eq_true, decide_eq_true_eq]
  exact ⟨⟨List.all_eq_true.mpr hr, ha⟩, Nat.le_trans (dedV_length xs) hl⟩
theorem intsOfV_map : ∀ ns : List Int, intsOfV (ns.map Val.int) = some ns
  | [] => rfl
  | i :: r => by simp only [List.map_cons, intsOfV, intsOfV_map r, Option.map_some]
theorem setOk_ints {ns : List Int} (hl : ns.length ≤ 4000) : setOk (ns.map Val.int) = true := by
  unfold setOk
  rw [Bool.or_eq_true]
  left
  rw [intsOfV_map]
  simp only [Option.isSome_some, List.length_map, Bool.true_and, decide_eq_true_eq]
  exact hl
theorem sortSet_seq {x : Val} {xs : List Val} (h : x.seq? = some xs) (ok : setOk xs = true) : sortSetV x = some (.lst true ((dedV xs).mergeSort leB)) := by
  unfold sortSetV
  rw [h]
  simp only [Option.bind_some, ok, if_true]
theorem alike_tup {xs ys : List Val} (h : PySem.W.alikeAll (toDL xs) (toDL ys) = true) : PySem.W.alike (Val.tup xs).toD (Val.tup ys).toD = true := by simpa only [Val.toD, PySem.W.alike] using h
theorem alike_int (i j : Int) : PySem.W.alike (Val.int i).toD (Val.int j).toD = true := by simp only [Val.toD, PySem.W.alike]
theorem alike_bl (i j : Bool) : PySem.W.alike (Val.bl i).toD (Val.bl j).toD = true := by simp only [Val.toD, PySem.W.alike]
theorem alike_str (i j : Str) : PySem.W.alike (Val.str i).toD (Val.str j).toD = true := by simp only [Val.toD, PySem.W.alike]
theorem alike_nil (ys : List Val) : PySem.W.alikeAll (toDL []) (toDL ys) = true := by simp [toDL, PySem.W.alikeAll]
theorem alike_cons {x y : Val} {xs ys : List Val} (h : PySem.W.alike x.toD y.toD = true) (t : PySem.W.alikeAll (toDL xs) (toDL ys) = true) : PySem.W.alikeAll (toDL (x :: xs)) (toDL (y :: ys)) = true := by
  simp only [toDL, PySem.W.alikeAll, h, t, Bool.and_self]
theorem tupleV_l {m : Bool} {xs : List Val} (h : pureL xs = true) : tupleV [.lst m xs] = some (.tup xs) := if_pos h
theorem listV_l {m : Bool} {xs : List Val} (h : pureL xs = true) : listV [.lst m xs] = some (.lst true xs) := if_pos h
theorem listV_t {xs : List Val} (h : pureL xs = true) : listV [.tup xs] = some (.lst true xs) := if_pos h

section
variable {τ τ1 τ2 : Sl} {i j : Nat} {D : Ev} {Ds : Evs} {v x y z : Val} {xs : List Val}
theorem s_set' (h : D τ = some (v, τ1)) (e : τ1.set i (some v) = τ2 := by rfl) : setM i D τ = some (.next, τ2) := by rw [s_set h, e]
theorem s_par' (h : Ds τ = some ([x, y], τ1)) (e : (τ1.set i (some x)).set j (some y) = τ2 := by rfl) : parM i j Ds τ = some (.next, τ2) := by rw [s_par h, e]
theorem s_callIO' {f : List Val → Option (Val × Val)} {y' y0 : Val} (h : f (y :: xs) = some (z, y')) (h1 : Ds τ = some (xs, τ1)) (p : pureL xs = true := by rfl) (h0 : τ[i]? = some (some y0) := by rfl) (h2 : τ1[i]? = some (some y) := by rfl) (e : τ1.set i (some y') = τ2 := by rfl) : callIO f i Ds τ = some (z, τ2) := by rw [s_callIO h0 h1 h2 p h, e]
end
end MV
end

section
set_option maxHeartbeats 4000000
/-! tests that leave all as it is -/
namespace MV
open PySem
section
variable {τ τ' : Sl} {a b : Bool} {A B : Tv} {Da Db Dc D : Ev} {Ds : Evs} {S S1 : Sv} {v x y z : Val} {xs ys : List Val} {i j : Nat}
theorem q_or (h1 : A τ = some (a, τ)) (h2 : a = false → B τ = some (b, τ)) : MV.orM A B τ = some (a || b, τ) := by
  cases a with
  | true => exact s_or1 h1
  | false => exact s_or2 h1 (h2 rfl)
theorem q_and (h1 : A τ = some (a, τ)) (h2 : a = true → B τ = some (b, τ)) : MV.andM A B τ = some (a && b, τ) := by
  cases a with
  | true => exact s_and2 h1 (h2 rfl)
  | false => exact s_and1 h1
theorem q_vand (h1 : Da τ = some (.bl a, τ)) (h2 : a = true → Db τ = some (.bl b, τ)) : andV Da Db τ = some (.bl (a && b), τ) := by
  cases a with
  | true => exact s_vand2 h1 (h2 rfl)
  | false => exact s_vand1 h1
theorem q_vor (h1 : Da τ = some (.bl a, τ)) (h2 : a = false → Db τ = some (.bl b, τ)) : orV Da Db τ = some (.bl (a || b), τ) := by
  cases a with
  | true => exact s_vor1 h1
  | false => exact s_vor2 h1 (h2 rfl)
theorem q_ch {g g' : Val → Val → Option Val} (h1 : Da τ = some (x, τ)) (h2 : Db τ = some (y, τ)) (h : g x y = some (.bl a)) (h3 : Dc τ = some (z, τ)) (h' : g' y z = some (.bl b)) : chM g g' Da Db Dc τ = some (.bl (a && b), τ) := by
  cases a with
  | true => exact s_ch2 h1 h2 h h3 h'
  | false => exact s_ch1 h1 h2 h
/-- the block ends with the answer v -/
def Ret (S : Sv) (τ : Sl) (v : Val) : Prop := ∃ τ', S τ = some (.ret v, τ')
theorem q_ret (h : D τ = some (v, τ')) : Ret (retM D) τ v := ⟨_, s_ret h⟩
theorem q_seq {τ1 : Sl} (h : S τ = some (.next, τ1)) (h2 : Ret S1 τ1 v) : Ret (seqM S S1) τ v := let ⟨τ', e⟩ := h2; ⟨τ', s_seq h e⟩
theorem q_ifT (h : A τ = some (true, τ)) (h2 : Ret S τ v) : Ret (seqM (ifM A S nextM) S1) τ v := let ⟨τ', e⟩ := h2; ⟨τ', s_seqR (s_ifT h e)⟩
theorem q_ifF (h : A τ = some (false, τ)) (h2 : Ret S1 τ v) : Ret (seqM (ifM A S nextM) S1) τ v := let ⟨τ', e⟩ := h2; ⟨τ', s_seq (s_ifF h s_next) e⟩
theorem q_no (h1 : A τ = some (a, τ)) (h2 : a = false → Ret S τ (.bl b)) : Ret (seqM (ifM A (retM (cC (.bl false))) nextM) S) τ (.bl (!a && b)) := by
  cases a with
  | true => exact q_ifT h1 (q_ret s_cC)
  | false => exact q_ifF h1 (h2 rfl)
theorem q_fn {m : Nat} (h : Ret S (xs.map some ++ List.replicate m none) v) : fnM m S xs = some v := let ⟨_, e⟩ := h; s_fn e
/-- an item -/
theorem q_ix {k : Int} (h : Da τ = some (.tup xs, τ)) (h2 : Db τ = some (.int k, τ)) (hx : L2.atI xs k = some x) (p : x.pure = true) : c2 idxV Da Db τ = some (x, τ) := s_c2 h h2 (pureO_ok hx p)
theorem q_ixL {m : Bool} {k : Int} (h : Da τ = some (.lst m xs, τ)) (h2 : Db τ = some (.int k, τ)) (hx : L2.atI xs k = some x) (p : x.pure = true) : c2 idxV Da Db τ = some (x, τ) := s_c2 h h2 (pureO_ok hx p)
end
/-! kinds -/
def isTp : Val → Bool
  | .tup _ => true
  | _ => false
def isB : Val → Bool
  | .bl _ => true
  | _ => false
def isI : Val → Bool
  | .int _ => true
  | _ => false
def isSt : Val → Bool
  | .str _ => true
  | _ => false
theorem isi_tup {n : Nat} {x : Val} (h : x.nice n = true) : isiV .tTuple x = some (.bl (isTp x)) := by cases x <;> first | rfl | simp [Val.nice] at h
theorem isi_bool {n : Nat} {x : Val} (h : x.nice n = true) : isiV .tBool x = some (.bl (isB x)) := by cases x <;> first | rfl | simp [Val.nice] at h
theorem isi_int {n : Nat} {x : Val} (h : x.nice n = true) : isiV .tInt x = some (.bl (isI x || isB x)) := by cases x <;> first | rfl | simp [Val.nice] at h
theorem isi_str {n : Nat} {x : Val} (h : x.nice n = true) : isiV .tStr x = some (.bl (isSt x)) := by cases x <;> first | rfl | simp [Val.nice] at h
def gTup (n : Nat) : Val → Bool
  | .tup xs => decide (xs.length = n)
  | _ => false
def gInt (lo hi : Int) : Val → Bool
  | .int i => decide (lo ≤ i) && decide (i ≤ hi)
  | _ => false
def gSign : Val → Bool
  | .str z => [Val.str "a", .str "b", .str "c"].any fun y => PyData.eqv y.toD (.str z)
  | _ => false
theorem nice_items {n : Nat} {xs : List Val} (h : (Val.tup xs).nice (n + 1) = true) : ∀ x ∈ xs, x.nice n = true := by
  simp only [Val.nice, Bool.and_eq_true] at h
  rw [niceL_all] at h
  exact List.all_eq_true.mp h.2
theorem nice_itemsL {n : Nat} {m : Bool} {xs : List Val} (h : (Val.lst m xs).nice (n + 1) = true) : ∀ x ∈ xs, x.nice n = true := by
  simp only [Val.nice, Bool.and_eq_true] at h
  rw [niceL_all] at h
  exact List.all_eq_true.mp h.2
theorem nice_tup_succ {n : Nat} {xs : List Val} (h : (Val.tup xs).nice n = true) : ∃ m, n = m + 1 := by
  cases n with
  | zero => simp [Val.nice] at h
  | succ m => exact ⟨m, rfl⟩
theorem nice_len {n : Nat} {xs : List Val} (h : (Val.tup xs).nice n = true) : xs.length ≤ 1000 := by
  obtain ⟨m, rfl⟩ := nice_tup_succ h
  simp only [Val.nice, Bool.and_eq_true, decide_eq_true_eq] at h
  exact h.1
theorem nice_mem {n : Nat} {xs : List Val} (h : (Val.tup xs).nice n = true) {x : Val} (hx : x ∈ xs) : x.nice n = true := by
  obtain ⟨m, rfl⟩ := nice_tup_succ h
  exact nice_up _ _ (nice_items h x hx)
theorem tup4 {x : Val} (h : gTup 4 x = true) : ∃ a b c d, x = .tup [a, b, c, d] := by
  cases x with
  | tup xs =>
    simp only [gTup, decide_eq_true_eq] at h
    match xs, h with
    | [a, b, c, d], _ => exact ⟨a, b, c, d, rfl⟩
  | _ => cases h
theorem tup5 {x : Val} (h : gTup 5 x = true) : ∃ a b c d e, x = .tup [a, b, c, d, e] := by
  cases x with
  | tup xs =>
    simp only [gTup, decide_eq_true_eq] at h
    match xs, h with
    | [a, b, c, d, e], _ => exact ⟨a, b, c, d, e, rfl⟩
  | _ => cases h
theorem tup2 {x : Val} (h : gTup 2 x = true) : ∃ a b, x = .tup [a, b] := by
  cases x with
  | tup xs =>
    simp only [gTup, decide_eq_true_eq] at h
    match xs, h with
    | [a, b], _ => exact ⟨a, b, rfl⟩
  | _ => cases h
theorem gInt_inv {lo hi : Int} {x : Val} (h : gInt lo hi x = true) : ∃ i, x = .int i ∧ lo ≤ i ∧ i ≤ hi := by
  cases x with
  | int i =>
    simp only [gInt, Bool.and_eq_true, decide_eq_true_eq] at h
    exact ⟨i, rfl, h⟩
  | _ => cases h
theorem eqB_int {i j : Int} : eqV (.int i) (.int j) = some (.bl (decide (i = j))) := by
  simp only [eqV]
  congr 2
end MV
end

section
set_option maxHeartbeats 4000000
/-! comprehensions that test or map -/
namespace MV
open PySem
theorem set_none {τ : Sl} {i : Nat} (h : τ[i]? = some none) : τ.set i none = τ := by
  refine List.ext_getElem? fun j => ?_
  by_cases hj : i = j
  · subst hj
    obtain ⟨h1, h2⟩ := List.getElem?_eq_some_iff.mp h
    rw [List.getElem?_set_self h1, h]
  · rw [List.getElem?_set_ne hj]
theorem set_back {τ : Sl} {i : Nat} {o : Option Val} (h : τ[i]? = some none) : (τ.set i o).set i none = τ := by rw [List.set_set, set_none h]
theorem set_at {τ : Sl} {i : Nat} {o o' : Option Val} (h : τ[i]? = some o') : (τ.set i o)[i]? = some o := List.getElem?_set_self (List.getElem?_eq_some_iff.mp h).1
theorem filterMap_if (p : Val → Bool) : ∀ xs : List Val, (xs.filterMap fun x => if p x = true then some x else none) = xs.filter p
  | [] => rfl
  | x :: r => by
    rw [List.filter_cons]
    cases h : p x with
    | true => simp [h, filterMap_if p r]
    | false => simp [h, filterMap_if p r]
section
variable {τ : Sl} {i : Nat} {I : Evs} {C : Tv} {E : Ev} {xs : List Val}
theorem q_filter' (p : Val → Bool) (hI : I τ = some (xs, τ)) (hp : pureL xs = true) (hi : τ[i]? = some none) (hC : ∀ x ∈ xs, C (τ.set i (some x)) = some (p x, τ.set i (some x))) (hl : xs.length ≤ 1000) :
    lcM I (nameT i) C (rdE i) [i] τ = some (.lst true (xs.filter p), τ) := by
  have pure : ∀ x ∈ xs, x.pure = true := by rw [pureL_all] at hp; exact List.all_eq_true.mp hp
  have w : wipeM τ [i] = τ := set_none hi
  have := lcM_det (T := nameT i) (C := C) (E := rdE i) (own := [i]) (fun x => if p x = true then some x else none) hI (by rw [sizeLine_eq]; omega) fun x hx => by
    refine ⟨τ.set i (some x), by rw [w]; rfl, ?_⟩
    rw [w]
    cases hpx : p x with
    | false => exact .inl ⟨by simp, _, by rw [hC x hx, hpx], set_back hi⟩
    | true => exact .inr ⟨x, _, _, by simp, by rw [hC x hx, hpx], s_rdE (set_at hi) (pure x hx), set_back hi⟩
  rw [this, w]
  rw [filterMap_if]
theorem q_map' (f : Val → Val) (hI : I τ = some (xs, τ)) (hi : τ[i]? = some none) (hE : ∀ x ∈ xs, E (τ.set i (some x)) = some (f x, τ.set i (some x))) (hl : xs.length ≤ 1000) :
    lcM I (nameT i) yesM E [i] τ = some (.lst true (xs.map f), τ) := by
  have w : wipeM τ [i] = τ := set_none hi
  have := lcM_det (T := nameT i) (C := yesM) (E := E) (own := [i]) (fun x => some (f x)) hI (by rw [sizeLine_eq]; omega) fun x hx => by
    refine ⟨τ.set i (some x), by rw [w]; rfl, ?_⟩
    rw [w]
    exact .inr ⟨f x, _, _, rfl, rfl, hE x hx, set_back hi⟩
  rw [this, w]
  simp
theorem q_seqI {D : Ev} {v : Val} (h : D τ = some (v, τ)) (hs : v.seq? = some xs) (hp : pureL xs = true) : seqI D τ = some (xs, τ) := by
  rw [s_seqI h hs, frzL_of_pure xs hp]
end
theorem blsOf_map (p : Val → Bool) : ∀ xs : List Val, blsOf (xs.map fun x => .bl (p x)) = some (xs.map p)
  | [] => rfl
  | x :: r => by simp only [List.map_cons, blsOf, blsOf_map p r, Option.map_some]
theorem allV_map {m : Bool} (p : Val → Bool) (xs : List Val) : allV [.lst m (xs.map fun x => .bl (p x))] = some (.bl (xs.all p)) := by
  simp only [allV, blsOf_map, Option.map_some, List.all_map]
  rfl
theorem anyV_map {m : Bool} (p : Val → Bool) (xs : List Val) : anyV [.lst m (xs.map fun x => .bl (p x))] = some (.bl (xs.any p)) := by
  simp only [anyV, blsOf_map, Option.map_some, List.any_map]
  rfl
theorem okD_nil (m : Bool) : okD (.lst m []) = true := by cases m <;> decide +kernel
theorem eq_nil {m m' : Bool} {zs : List Val} (h : okD (.lst m zs) = true) : eqV (.lst m zs) (.lst m' []) = some (.bl zs.isEmpty) := by
  simp only [eqV, h, okD_nil, Bool.and_self, if_true, Val.toD, toDL, PyData.eqv]
  cases zs with
  | nil => simp [toDL, PyData.eqvAll]
  | cons z r => simp [toDL, PyData.eqvAll]
theorem ne_nil {m m' : Bool} {zs : List Val} (h : okD (.lst m zs) = true) : neV (.lst m zs) (.lst m' []) = some (.bl (!zs.isEmpty)) := by
  simp only [neV, eq_nil h, Option.bind_some]
theorem nice_lst_okD {n : Nat} {m : Bool} {zs : List Val} (h : ∀ z ∈ zs, z.nice n = true) (hn : n ≤ 63) : okD (.lst m zs) = true := by
  have hl : niceL n zs = true := by rw [niceL_all]; exact List.all_eq_true.mpr h
  have := niceL_depth n zs hl
  unfold okD SeqAt.shaped
  simp only [Val.toD, PyData.canLay0, PyData.depth, Bool.and_eq_true, decide_eq_true_eq]
  exact ⟨this.2, by omega⟩
theorem filter_empty {p : Val → Bool} {xs : List Val} : (xs.filter fun x => !p x).isEmpty = xs.all p := by
  induction xs with
  | nil => rfl
  | cons x r ih =>
    rw [List.filter_cons]
    cases h : p x with
    | true => simpa [h] using ih
    | false => simp [h]
end MV
end

section
set_option maxHeartbeats 4000000
/-! dicts whose keys are tuples: what stands there, one key asked or stored -/
namespace MV
open PySem PySem.Spec PyProof.Rows L2

abbrev En := NestedKey × V × V
section
variable (P : Program) (w : World) (K : PySem.W.Frag)
def DN (H : Hp) (a : Addr) (es : List En) : Prop := ∃ F ks, Rd H a (DctT P w a es) ∧ (es.map (·.1)).Nodup ∧ ks.map Val.nkey = es.map (fun e => some e.1) ∧ (∀ x ∈ ks, x.row = true) ∧ VRs P w K F H (es.map (·.2.1)) ks []
def KN (H : Hp) (y : V) (k : NestedKey) : Prop := ∃ F x L, VR P w K F H y x L ∧ x.nkey = some k ∧ x.row = true
end
abbrev XsOf : List En → List (NestedKey × Addr × Value) → Prop := Paired fun e x => e.1 = x.1 ∧ e.2.1 = V.ref x.2.1 ∧ RelV e.2.2 x.2.2
def lookE (k : NestedKey) : List En → Option V
  | [] => none
  | e :: r => if e.1 = k then some e.2.2 else lookE k r
def putE (k : NestedKey) (y v : V) : List En → List En
  | [] => [(k, y, v)]
  | e :: r => if e.1 = k then (e.1, e.2.1, v) :: r else e :: putE k y v r
theorem putE_len (k : NestedKey) (y v : V) : ∀ es : List En, (putE k y v es).length ≤ es.length + 1
  | [] => Nat.le_refl _
  | e :: r => by
    unfold putE
    split
    · exact Nat.le_succ _
    · exact Nat.succ_le_succ (putE_len k y v r)
theorem XsOf.at : ∀ {es : List En} {xs : List (NestedKey × Addr × Value)} (k : NestedKey), XsOf es xs → RelO (lookE k es) ((atKey xs k).map (·.2))
  | _, _, k, .nil => trivial
  | e :: es, x :: xs, k, .cons r t => by
    unfold lookE
    by_cases h : e.1 = k
    · rw [if_pos h]
      have : atKey (x :: xs) k = some x.2 := by simp [atKey, List.find?_cons, ← r.1, h]
      rw [this]
      exact r.2.2
    · rw [if_neg h]
      have : atKey (x :: xs) k = atKey xs k := by simp [atKey, List.find?_cons, ← r.1, h]
      rw [this]
      exact XsOf.at k t
theorem putX_map {k : NestedKey} {v : Value} : ∀ {xs : List (NestedKey × Addr × Value)}, k ∉ xs.map (·.1) → xs.map (putAt k v) = xs
  | [], _ => rfl
  | x :: xs, h => by
    rw [List.map_cons, List.mem_cons, not_or] at h
    rw [List.map_cons, putX_map h.2, putAt, if_neg (fun e => h.1 e.symm)]
theorem atKey_cons_ne {x : NestedKey × Addr × Value} {xs : List (NestedKey × Addr × Value)} {k : NestedKey} (h : ¬ x.1 = k) : atKey (x :: xs) k = atKey xs k := by simp [atKey, List.find?_cons, h]
theorem XsOf.put : ∀ {es : List En} {xs : List (NestedKey × Addr × Value)} (k : NestedKey) {y v : V} {b : Addr} {u : Value}, XsOf es xs → (xs.map (·.1)).Nodup → y = V.ref b → RelV v u → XsOf (putE k y v es) (storedH xs k b u)
  | _, _, k, y, v, b, u, .nil, _, ey, rv => .cons ⟨rfl, ey, rv⟩ .nil
  | e :: es, x :: xs, k, y, v, b, u, .cons r t, nd, ey, rv => by
    rw [List.map_cons, List.nodup_cons] at nd
    unfold putE
    by_cases h : e.1 = k
    · rw [if_pos h]
      have h2 : x.1 = k := r.1.symm.trans h
      have : atKey (x :: xs) k = some x.2 := by simp [atKey, List.find?_cons, h2]
      rw [storedH_old this, List.map_cons, putX_map (by rw [← h2]; exact nd.1), putAt, if_pos h2]
      exact .cons ⟨r.1, r.2.1, rv⟩ t
    · rw [if_neg h]
      have h2 : ¬ x.1 = k := fun z => h (r.1.trans z)
      have ih := XsOf.put k t nd.2 ey rv
      have e2 := atKey_cons_ne (xs := xs) h2
      have e3 : storedH (x :: xs) k b u = x :: storedH xs k b u := by
        unfold storedH
        rw [e2]
        split
        · rw [List.map_cons, putAt, if_neg h2]
        · rfl
      rw [e3]
      exact .cons r ih
theorem XsOf.keys : ∀ {es : List En} {xs : List (NestedKey × Addr × Value)}, XsOf es xs → es.map (·.1) = xs.map (·.1)
  | _, _, .nil => rfl
  | _, _, .cons r t => by rw [List.map_cons, List.map_cons, XsOf.keys t, r.1]
theorem XsOf.entries {P : Program} {w : World} : ∀ {es : List En} {xs : List (NestedKey × Addr × Value)}, XsOf es xs →
    Paired (fun (e : En) (d : DictEntry) => d.hash = (nestedKind P w).hash e.1 ∧ RelV e.2.1 d.key ∧ RelV e.2.2 d.val) es (xs.map (entryOfKey (nestedKind P w)))
  | _, _, .nil => .nil
  | _, _, .cons (a := e) (b := x) r t => .cons ⟨by rw [r.1]; rfl, by rw [r.2.1]; rfl, r.2.2⟩ (XsOf.entries t)
section
variable {X : Cx} {pins : List (Addr × Obj)} {σ : S2} {H : Hp} {s : Shared} {F : Addr → Prop}
theorem row_ref {P : Program} {w : World} {K : PySem.W.Frag} {v : V} {x : Val} {L : List Addr} (h : VR P w K F H v x L) (r : x.row = true) : ∃ b, v = .ref b := by
  obtain ⟨y, t, k, rfl, _⟩ := Val.row_inv r
  cases h
  exact ⟨_, rfl⟩
theorem KN.is (I : L2.Inv X pins σ H s) {y : V} {k : NestedKey} {u : Value} (h : KN X.prog X.w X.K H y k) (r : RelV y u) : ∃ b, u = .ref b ∧ y = .ref b ∧ (nestedKind X.prog X.w).is s.heap k b := by
  obtain ⟨F, x, L, hv, hk, hr⟩ := h
  obtain ⟨b, rfl⟩ := row_ref hv hr
  have n := VR.key I hv hk r
  obtain ⟨_, _, k', rfl, e2, hd, _⟩ := Val.row_inv hr
  rw [hk] at e2
  cases e2
  obtain rfl : u = .ref b := r
  exact ⟨b, rfl, rfl, n, hd⟩
theorem xs_of (I : L2.Inv X pins σ H s) : ∀ {es : List En} {ks : List Val} {ds : List DictEntry}, VRs X.prog X.w X.K F H (es.map (·.2.1)) ks [] → ks.map Val.nkey = es.map (fun e => some e.1) → (∀ x ∈ ks, x.row = true) →
    Paired (fun (e : En) (d : DictEntry) => d.hash = (nestedKind X.prog X.w).hash e.1 ∧ RelV e.2.1 d.key ∧ RelV e.2.2 d.val) es ds →
    ∃ xs, XsOf es xs ∧ ds = xs.map (entryOfKey (nestedKind X.prog X.w)) ∧ ∀ x ∈ xs, (nestedKind X.prog X.w).is s.heap x.1 x.2.1
  | [], _, _, _, _, _, .nil => ⟨[], .nil, rfl, fun _ z => nomatch z⟩
  | e :: es, [], _, hv, _, _, _ => nomatch hv
  | e :: es, x :: ks, _, hv, hk, hr, .cons (b := d) (l₂ := ds) r t => by
    obtain ⟨v, vs', L1, L2, ev, h1, h2, el⟩ := VRs.cons_inv hv
    cases ev
    have el1 : L1 = [] := (List.append_eq_nil_iff.mp el.symm).1
    have el2 : L2 = [] := (List.append_eq_nil_iff.mp el.symm).2
    subst el1 el2
    rw [List.map_cons, List.map_cons] at hk
    injection hk with hk1 hk2
    obtain ⟨xs, a1, a2, a3⟩ := xs_of I h2 hk2 (fun y hy => hr y (List.mem_cons_of_mem _ hy)) t
    have hrx := hr x List.mem_cons_self
    obtain ⟨b, eb, eb2, is⟩ := KN.is I ⟨F, x, [], h1, hk1, hrx⟩ r.2.1
    refine ⟨(e.1, b, d.val) :: xs, .cons ⟨rfl, eb2, r.2.2⟩ a1, ?_, fun z hz => ?_⟩
    · rw [List.map_cons, ← a2]
      congr 1
      cases d
      simp only [entryOfKey] at *
      rw [← r.1, ← eb]
    · rcases List.mem_cons.mp hz with rfl | hz
      · exact is
      · exact a3 z hz
theorem DN.at (I : L2.Inv X pins σ H s) {a : Addr} {es : List En} (d : DN X.prog X.w X.K H a es) : (a == sysModules) = false ∧ es.length ≤ sizeLine ∧ ∃ xs, XsOf es xs ∧ (xs.map (·.1)).Nodup ∧ s.heap.DictOfH (nestedKind X.prog X.w) a xs := by
  obtain ⟨F, ks, rd, nd, hk, hr, hv⟩ := d
  obtain ⟨⟨h1, h2, o, ds, ep, ho, hx, hd, pr⟩, _⟩ := rd_of I.hok rd
  obtain ⟨xs, a1, a2, a3⟩ := xs_of I hv hk hr pr
  have nd' : (xs.map (·.1)).Nodup := by rw [← a1.keys]; exact nd
  exact ⟨h1, h2, xs, a1, nd', o, ds, ep, ho, hx, hd, a2, a3, nd'⟩
end

/-! readings -/
def rDGet (P : Program) (w : World) (K : PySem.W.Frag) : R2 := fun x y H Q => ∃ a es k v, x = .ref a ∧ DN P w K H a es ∧ KN P w K H y k ∧ lookE k es = some v ∧ Q v H
def rDIn (P : Program) (w : World) (K : PySem.W.Frag) : R2 := fun y x H Q => ∃ a es k, x = .ref a ∧ DN P w K H a es ∧ KN P w K H y k ∧ Q (.bl (lookE k es).isSome) H
def rDNotIn (P : Program) (w : World) (K : PySem.W.Frag) : R2 := fun y x H Q => ∃ a es k, x = .ref a ∧ DN P w K H a es ∧ KN P w K H y k ∧ Q (.bl (!(lookE k es).isSome)) H
def rDSet (P : Program) (w : World) (K : PySem.W.Frag) : V → V → V → Hp → (Hp → Prop) → Prop := fun x y v H Q => ∃ a es k, x = .ref a ∧ H a = some (DctT P w a es) ∧ DN P w K H a es ∧ KN P w K H y k ∧ es.length < sizeLine ∧ Q (upd H a (DctT P w a (putE k y v es)))
section
variable {X : Cx} {a b : Expr} {ta tb : TE} {pos : Pos}
theorem room_of {A : Around} (hu : A.units + 65 < cLine) : (nestedKind X.prog X.w).room A.in1 := by
  show A.in1.units + 8 < cLine
  have e1 : A.in1.units = A.units + 1 := rfl
  omega
theorem pe_dgN (hu : X.A.units + 65 < cLine) (ha : PE X a ta) (hb : PE X b tb) (hs : NoSl b) : PE X (.Subscript a b pos) (tOp (rDGet X.prog X.w X.K) ta tb) := by
  refine ⟨fun pins s σ H Q I h => ?_⟩
  refine subD_of PySem.F.slot_dict_getitem.lookup hs (thn (ha.run pins s σ H _ I h) fun u s1 ⟨x, H1, I1, rx, q1⟩ => thn (hb.run pins s1 σ H1 _ I1 q1) fun iv s2 ⟨y, H2, I2, ry, p, es, k, v, ex, dn, kn, lk, q2⟩ => ?_)
  subst ex
  obtain rfl : u = Value.ref p := rx
  obtain ⟨hd, hl, xs, hx, nd, dd⟩ := dn.at I2
  obtain ⟨bb, rfl, eb2, is⟩ := kn.is I2 ry
  obtain ⟨w', hw, rw'⟩ := RelO.some_of (v := v) (o := (atKey xs k).map (·.2)) (by rw [← lk]; exact hx.at k)
  obtain ⟨z, hz, hz2⟩ := Option.map_eq_some_iff.mp hw
  refine ⟨dd.typeIs, wpAny_getItem_heap (room_of hu) is dd hz ?_⟩
  rw [hz2]
  exact ⟨v, H2, I2.tok _, rw', q2⟩
theorem op_dinN (hu : X.A.units + 65 < cLine) : OpR X (compareOp .In) (rDIn X.prog X.w X.K) := by
  intro pins s σ H y x iv u Q I ry rx ⟨p, es, k, ex, dn, kn, q⟩
  subst ex
  obtain rfl : u = Value.ref p := rx
  obtain ⟨hd, hl, xs, hx, nd, dd⟩ := dn.at I
  obtain ⟨bb, rfl, eb2, is⟩ := kn.is I ry
  refine wpAny_in_heap (room_of hu) is hd dd ?_
  have z := (hx.at k).isSome_eq
  rw [Option.isSome_map] at z
  exact ⟨_, H, I.tok _, by rw [z]; rfl, q⟩
theorem op_dnotinN (hu : X.A.units + 65 < cLine) : OpR X (compareOp .NotIn) (rDNotIn X.prog X.w X.K) := by
  intro pins s σ H y x iv u Q I ry rx ⟨p, es, k, ex, dn, kn, q⟩
  subst ex
  obtain rfl : u = Value.ref p := rx
  obtain ⟨hd, hl, xs, hx, nd, dd⟩ := dn.at I
  obtain ⟨bb, rfl, eb2, is⟩ := kn.is I ry
  refine wpAny_notIn_heap (room_of hu) is hd dd ?_
  have z := (hx.at k).isSome_eq
  rw [Option.isSome_map] at z
  exact ⟨_, H, I.tok _, by rw [z]; rfl, q⟩
theorem dctT_ok {P : Program} {w : World} {H : Hp} {h : Heap} {a : Addr} {es : List En} {xs : List (NestedKey × Addr × Value)} (ha : (a == sysModules) = false) (hl : es.length ≤ sizeLine) (hx : XsOf es xs) (dd : h.DictOfH (nestedKind P w) a xs) : ObjOk P w H h a (DctT P w a es) := by
  obtain ⟨o, ds, ep, h1, h2, h3, h4, h5, h6⟩ := dd
  refine ⟨⟨ha, hl, o, ds, ep, h1, h2, h3, ?_⟩, ⟨o, h1⟩, fun g1 g2 ⟨b1, b2, o', ds', ep', b3, b4⟩ k => ⟨b1, b2, o', ds', ep', k _ b3, b4⟩⟩
  rw [h4]
  exact hx.entries
theorem set_dictN (hu : X.A.units + 65 < cLine) : PSet X (rDSet X.prog X.w X.K) := by
  intro pins s σ H o i v ov iv u Q I ro ri rv ⟨a, es, k, ex, hH, dn, kn, hl, q⟩
  subst ex
  obtain rfl : ov = Value.ref a := ro
  obtain ⟨hd, hl2, xs, hx, nd, dd⟩ := dn.at I
  obtain ⟨bb, rfl, eb2, is⟩ := kn.is I ri
  refine wpAny_setItem_heap (hsz := by rw [← Paired.length hx]; exact hl2) (room_of hu) is dd fun h' dd' hs => ⟨_, ?_, q⟩
  have he : ∃ q, h'.get? a = some q := let ⟨q, _, _, hq, _⟩ := dd'; ⟨q, hq⟩
  refine d_write I (by rw [hH]; exact True.intro) hs he (dctT_ok hd (Nat.le_trans (putE_len k i v es) hl) (hx.put k nd eb2 rv) dd')
end
/-- {} -/
theorem dnew_ok {P : Program} {w : World} {H : Hp} (h : Heap) (hb : sysModules < h.objs.size) : ObjOk P w H (h.push { cls := .type "dict", data := .dict #[] }) h.objs.size (DctT P w h.objs.size []) :=
  dctT_ok (xs := []) (beq_eq_false_iff_ne.mpr (Ne.symm (Nat.ne_of_lt hb))) (Nat.zero_le _) .nil (Heap.DictOfH.new h)
def tDNewN (P : Program) (w : World) : TE := fun _ H Q => ∀ p, H p = none → Q (.ref p) (upd H p (DctT P w p []))
theorem pe_dnewN {X : Cx} {pos : Pos} : PE X (.Dict [] [] pos) (tDNewN X.prog X.w) := ⟨fun pins s σ H Q I h =>
  wpAny_Dict_empty ⟨.ref s.heap.objs.size, _, I.laid (a := s.heap.objs.size) (o := DctT X.prog X.w s.heap.objs.size []) (t' := s.toks) (fun _ _ q => Heap.get?_push_of_some _ q) (Nat.le_refl _) (dnew_ok s.heap I.big), rfl, h _ (I.hok.fresh (Nat.le_refl _))⟩⟩
end MV
end

section
set_option maxHeartbeats 4000000
/-! dicts with tuple keys by content: {}, d[k], k in d, d[k] = v, sorted(d) -/
namespace MV
open PySem PySem.Spec PyProof.Rows L2
open PySem.W (EachIs)

def dgetV (k : NestedKey) : List Val → List Val → Option Val
  | x :: ks, v :: vs => if x.nkey = some k then some v else dgetV k ks vs
  | _, _ => none
def dputKs (k : NestedKey) (x : Val) : List Val → List Val
  | [] => [x]
  | y :: ks => if y.nkey = some k then y :: ks else y :: dputKs k x ks
def dputVs (k : NestedKey) (v : Val) : List Val → List Val → List Val
  | y :: ks, u :: vs => if y.nkey = some k then v :: vs else u :: dputVs k v ks vs
  | _, _ => [v]
def hasK (k : NestedKey) (ks : List Val) : Bool := ks.any fun x => decide (x.nkey = some k)
def rowsOk (ks : List Val) : Bool := ks.all Val.row
theorem rowsOk_mem {ks : List Val} (h : rowsOk ks = true) : ∀ x ∈ ks, x.row = true := List.all_eq_true.mp h
theorem row_pure {x : Val} (h : x.row = true) : x.pure = true := by
  obtain ⟨_, _, k, _, e, _⟩ := Val.row_inv h
  exact pure_of_key x k e
section
variable {P : Program} {w : World} {K : PySem.W.Frag} {F : Addr → Prop} {H : Hp}
theorem look_get : ∀ {es : List En} {ks vs : List Val} {L : List Addr} (k : NestedKey), ks.map Val.nkey = es.map (fun e => some e.1) → VRs P w K F H (es.map (·.2.2)) vs L →
    (∀ z, dgetV k ks vs = some z → ∃ v L1, lookE k es = some v ∧ VR P w K F H v z L1) ∧ (lookE k es).isSome = hasK k ks
  | [], [], vs, L, k, _, _ => ⟨(fun z e => by unfold dgetV at e; exact nomatch e), rfl⟩
  | [], _ :: _, _, _, _, hk, _ => nomatch hk
  | _ :: _, [], _, _, _, hk, _ => nomatch hk
  | e :: es, x :: ks, [], _, k, _, h => nomatch h
  | e :: es, x :: ks, v :: vs, L, k, hk, h => by
    rw [List.map_cons, List.map_cons] at hk
    injection hk with hk1 hk2
    obtain ⟨v', vs', L1, L2, ev, h1, h2, el⟩ := VRs.cons_inv h
    cases ev
    obtain ⟨i1, i2⟩ := look_get k hk2 h2
    unfold dgetV lookE hasK
    rw [hk1, List.any_cons, hk1]
    by_cases c : e.1 = k
    · rw [if_pos c, if_pos (by rw [c])]
      refine ⟨fun z ez => ?_, by simp [c]⟩
      cases ez
      exact ⟨_, _, rfl, h1⟩
    · have c2 : ¬ some e.1 = some k := fun z => c (Option.some.inj z)
      rw [if_neg c, if_neg c2]
      exact ⟨i1, by rw [i2]; simp [c2, hasK]⟩
theorem put_keys : ∀ {es : List En} {ks : List Val} (k : NestedKey) (y v : V) (x : Val), ks.map Val.nkey = es.map (fun e => some e.1) → x.nkey = some k → (dputKs k x ks).map Val.nkey = (putE k y v es).map (fun e => some e.1)
  | [], [], k, y, v, x, _, hx => by simp [dputKs, putE, hx]
  | [], _ :: _, _, _, _, _, hk, _ => nomatch hk
  | _ :: _, [], _, _, _, _, hk, _ => nomatch hk
  | e :: es, z :: ks, k, y, v, x, hk, hx => by
    rw [List.map_cons, List.map_cons] at hk
    injection hk with hk1 hk2
    unfold dputKs putE
    rw [hk1]
    by_cases c : e.1 = k
    · rw [if_pos c, if_pos (by rw [c]), List.map_cons, List.map_cons, hk1, hk2]
    · have c2 : ¬ some e.1 = some k := fun z => c (Option.some.inj z)
      rw [if_neg c, if_neg c2, List.map_cons, List.map_cons, hk1, put_keys k y v x hk2 hx]
theorem put_nodup : ∀ {es : List En} (k : NestedKey) (y v : V), (es.map (·.1)).Nodup → ((putE k y v es).map (·.1)).Nodup ∧ ∀ j, j ∈ (putE k y v es).map (·.1) → j = k ∨ j ∈ es.map (·.1)
  | [], k, y, v, _ => ⟨by simp [putE], fun j hj => by simp [putE] at hj; exact .inl hj⟩
  | e :: es, k, y, v, h => by
    rw [List.map_cons, List.nodup_cons] at h
    unfold putE
    by_cases c : e.1 = k
    · rw [if_pos c, List.map_cons]
      exact ⟨List.nodup_cons.mpr h, fun j hj => .inr hj⟩
    · rw [if_neg c, List.map_cons]
      obtain ⟨i1, i2⟩ := put_nodup k y v h.2
      refine ⟨List.nodup_cons.mpr ⟨fun z => ?_, i1⟩, fun j hj => ?_⟩
      · rcases i2 _ z with q | q
        · exact c q
        · exact h.1 q
      · rcases List.mem_cons.mp hj with rfl | hj
        · exact .inr List.mem_cons_self
        · exact (i2 j hj).imp id (List.mem_cons_of_mem _)
theorem put_krel : ∀ {es : List En} {ks : List Val} (k : NestedKey) (y v : V) (x : Val), ks.map Val.nkey = es.map (fun e => some e.1) → VRs P w K F H (es.map (·.2.1)) ks [] → VR P w K F H y x [] → VRs P w K F H ((putE k y v es).map (·.2.1)) (dputKs k x ks) []
  | [], [], k, y, v, x, _, _, hx => .cons hx .nil
  | [], _ :: _, _, _, _, _, hk, _, _ => nomatch hk
  | _ :: _, [], _, _, _, _, hk, _, _ => nomatch hk
  | e :: es, z :: ks, k, y, v, x, hk, h, hx => by
    rw [List.map_cons, List.map_cons] at hk
    injection hk with hk1 hk2
    obtain ⟨v', vs', L1, L2, ev, h1, h2, el⟩ := VRs.cons_inv h
    cases ev
    obtain ⟨rfl, rfl⟩ := List.append_eq_nil_iff.mp el.symm
    unfold dputKs putE
    rw [hk1]
    by_cases c : e.1 = k
    · rw [if_pos c, if_pos (by rw [c])]
      exact .cons h1 h2
    · have c2 : ¬ some e.1 = some k := fun z => c (Option.some.inj z)
      rw [if_neg c, if_neg c2]
      exact .cons h1 (put_krel k y v x hk2 h2 hx)
theorem put_vrel : ∀ {es : List En} {ks vs : List Val} (k : NestedKey) (y v : V) (z : Val), ks.map Val.nkey = es.map (fun e => some e.1) → VRs P w K F H (es.map (·.2.2)) vs [] → VR P w K F H v z [] → VRs P w K F H ((putE k y v es).map (·.2.2)) (dputVs k z ks vs) []
  | [], [], vs, k, y, v, z, _, h, hz => by
    have : vs = [] := by cases h; rfl
    subst this
    exact .cons hz .nil
  | [], _ :: _, _, _, _, _, _, hk, _, _ => nomatch hk
  | _ :: _, [], _, _, _, _, _, hk, _, _ => nomatch hk
  | e :: es, x :: ks, [], k, y, v, z, _, h, _ => nomatch h
  | e :: es, x :: ks, u :: vs, k, y, v, z, hk, h, hz => by
    rw [List.map_cons, List.map_cons] at hk
    injection hk with hk1 hk2
    obtain ⟨v', vs', L1, L2, ev, h1, h2, el⟩ := VRs.cons_inv h
    cases ev
    obtain ⟨rfl, rfl⟩ := List.append_eq_nil_iff.mp el.symm
    unfold dputVs putE
    rw [hk1]
    by_cases c : e.1 = k
    · rw [if_pos c, if_pos (by rw [c])]
      exact .cons hz h2
    · have c2 : ¬ some e.1 = some k := fun z => c (Option.some.inj z)
      rw [if_neg c, if_neg c2]
      exact .cons h1 (put_vrel k y v z hk2 h2 hz)
theorem AtD.rd {m : Bool} {a : Addr} {u : HO} {L0 L : List Addr} (h : AtD F H m a u L0 L) : Rd H a u := by
  unfold AtD at h
  cases m with
  | true => simp only [if_true] at h; exact .inl h.1
  | false => simp only [Bool.false_eq_true, if_false] at h; exact h.2.1
theorem VR.dT_inv {v : V} {m : Bool} {ks vs : List Val} {L : List Addr} (h : VR P w K F H v (.dct m true ks vs) L) (hr : rowsOk ks = true) : ∃ a es L0, v = .ref a ∧ AtD F H m a (DctT P w a es) L0 L ∧ DN P w K H a es ∧ (es.map (·.1)).Nodup ∧ ks.map Val.nkey = es.map (fun e => some e.1) ∧
    VRs P w K F H (es.map (·.2.1)) ks [] ∧ VRs P w K F H (es.map (·.2.2)) vs L0 := by
  cases h with
  | @dT a _ es _ _ L0 _ hA nd hk h1 h2 => exact ⟨a, es, L0, rfl, hA, ⟨F, ks, hA.rd, nd, hk, rowsOk_mem hr, h1⟩, nd, hk, h1, h2⟩
end
/-! d[k], k in d -/
def dctGet : Val → Val → Option Val
  | .dct _ true ks vs, y => if (rowsOk ks && y.row && pureL vs) = true then (y.nkey).bind fun k => dgetV k ks vs else none
  | _, _ => none
def dctIn : Val → Val → Option Val
  | y, .dct _ true ks _ => if (rowsOk ks && y.row) = true then (y.nkey).bind fun k => some (.bl (hasK k ks)) else none
  | _, _ => none
def dctNotIn : Val → Val → Option Val
  | y, .dct _ true ks _ => if (rowsOk ks && y.row) = true then (y.nkey).bind fun k => some (.bl (!hasK k ks)) else none
  | _, _ => none
section
variable {P : Program} {w : World} {K : PySem.W.Frag}
theorem mG_dget : M2 P w K (rDGet P w K) dctGet := by
  intro F H vx vy x y Lx Ly z Q ft hx hy e post
  unfold dctGet at e
  split at e
  · rename_i m ks vs
    split at e
    · rename_i hc
      simp only [Bool.and_eq_true] at hc
      obtain ⟨⟨h1, h2⟩, h3⟩ := hc
      obtain ⟨k, hk, e⟩ := bind_eq e
      obtain ⟨a, es, L0, rfl, hA, dn, nd, hkk, r1, r2⟩ := hx.dT_inv h1
      obtain ⟨v, L1, e1, hv⟩ := (look_get k hkk (r2.pureL h3)).1 z e
      have pz : z.pure = true := by
        have key : ∀ {ks vs : List Val}, dgetV k ks vs = some z → pureL vs = true → z.pure = true := by
          intro ks vs
          induction ks generalizing vs with
          | nil => intro h; cases vs <;> cases h
          | cons x ks ih =>
            intro h p
            cases vs with
            | nil => cases h
            | cons u vs =>
              unfold dgetV at h
              simp only [pureL, Bool.and_eq_true] at p
              split at h
              · cases h; exact p.1
              · exact ih h p.2
        exact key e h3
      exact ⟨a, es, k, v, rfl, dn, ⟨F, y, Ly, hy, hk, h2⟩, e1, post v F H [] (hv.pureV pz) (Step.id ft)⟩
    · cases e
  · cases e
theorem mG_din : M2 P w K (rDIn P w K) dctIn := by
  intro F H vy vx y x Ly Lx z Q ft hy hx e post
  unfold dctIn at e
  split at e
  · rename_i m ks vs
    split at e
    · rename_i hc
      simp only [Bool.and_eq_true] at hc
      obtain ⟨k, hk, e⟩ := bind_eq e
      cases e
      obtain ⟨a, es, L0, rfl, hA, dn, nd, hkk, r1, r2⟩ := hx.dT_inv hc.1
      refine ⟨a, es, k, rfl, dn, ⟨F, y, Ly, hy, hk, hc.2⟩, ?_⟩
      rw [(look_get k hkk r2).2]
      exact post _ F H [] (.bl _) (Step.id ft)
    · cases e
  · cases e
theorem mG_dnotin : M2 P w K (rDNotIn P w K) dctNotIn := by
  intro F H vy vx y x Ly Lx z Q ft hy hx e post
  unfold dctNotIn at e
  split at e
  · rename_i m ks vs
    split at e
    · rename_i hc
      simp only [Bool.and_eq_true] at hc
      obtain ⟨k, hk, e⟩ := bind_eq e
      cases e
      obtain ⟨a, es, L0, rfl, hA, dn, nd, hkk, r1, r2⟩ := hx.dT_inv hc.1
      refine ⟨a, es, k, rfl, dn, ⟨F, y, Ly, hy, hk, hc.2⟩, ?_⟩
      rw [(look_get k hkk r2).2]
      exact post _ F H [] (.bl _) (Step.id ft)
    · cases e
  · cases e
end
section
variable {X : Cx} {q : Bool} {n : Nat} {a b e : Expr} {D Da Db : Ev} {pos : Pos}
theorem se_dget (hu : X.A.units + 65 < cLine) (ha : SO q X a Da) (hb : SO true X b Db) (hs : NoSl b) : SE q X (.Subscript a b pos) (c2 dctGet Da Db) := peI (pe_dgN hu ha hb hs) (tOp_ok mG_dget)
theorem se_dget' (hu : X.A.units + 65 < cLine) (ha : SE q X a Da) (hb : SO q X b Db) (hs : NoSl b) : SE q X (.Subscript a b pos) (c2 dctGet Da Db) := peI (pe_dgN hu ha hb hs) (tOp_ok' mG_dget)
/-- {} -/
theorem se_dnew : SE true X (.Dict [] [] pos) (cC (.dct true true [] [])) := peI pe_dnewN fun σ H Q ⟨F, τ, L, z, τ', s, g, ev, post⟩ => by
  cases ev
  intro p np
  have st := Step.new (o := DctT X.prog X.w p []) g np
  have hA : AtD F (upd H p (DctT X.prog X.w p [])) true p (DctT X.prog X.w p []) [] [p] := by
    show (if true = true then _ else _)
    rw [if_pos rfl]
    exact ⟨upd_same, rfl⟩
  exact post _ F _ L [p] (.dT hA List.nodup_nil rfl .nil .nil) (s.stepQ st g.ft) st
end
/-- what one slot alone owns is written -/
theorem slot_mut {P : Program} {w : World} {K : PySem.W.Frag} {F : Addr → Prop} {H : Hp} {σ : S2} {τ : Sl} {L : List Addr} {i : Nat} {a : Addr} {y y' : Val} {ob : HO} (s : SR P w K F H σ τ L) (g : Good F H L) (e : τ[i]? = some (some y)) (a0 : σ[i]? = some (some (.ref a)))
    (own : ∀ Li, VR P w K F H (.ref a) y Li → Li = [a]) (new : VR P w K F (upd H a ob) (.ref a) y' [a]) :
    ∃ L3, SR P w K F (upd H a ob) σ (τ.set i (some y')) L3 ∧ Step false F H L F (upd H a ob) L3 := by
  obtain ⟨v1, Li, Lz, a1, a2, p, _, sz, _⟩ := s.at e
  rw [a0] at a1
  have ev1 : V.ref a = v1 := Option.some.inj (Option.some.inj a1)
  subst ev1
  obtain rfl := own Li a2
  have haL : a ∈ L := p.mem_iff.mpr (List.mem_append_right _ (List.mem_singleton.mpr rfl))
  have stw := Step.write (o := ob) g haL
  have ne : ∀ b, b ≠ a → upd H a ob b = H b := fun b h => upd_ne h
  have nF : ∀ b, F b → b ≠ a := fun b hb e => g.nf a haL (e ▸ hb)
  have g2 := g.sub (Sub.of_perm p.symm)
  have na : a ∉ Lz := fun z => (List.nodup_append.mp g2.nd).2.2 a z a (List.mem_singleton.mpr rfl) rfl
  have hi : i < τ.length := by
    rcases Nat.lt_or_ge i τ.length with c | c
    · exact c
    · rw [List.getElem?_eq_none c] at e; cases e
  have sz2 : SR P w K F (upd H a ob) σ (τ.set i none) Lz := sz.mono (fun _ z => z) (fun b hb => ne b (nF b hb)) fun b hb => ne b fun e => na (e ▸ hb)
  have sf := sz2.fill a0 hi new
  exact ⟨_, sf, stw.sub (Sub.of_perm p.symm)⟩
def dputM (i : Nat) (Dk De : Ev) : Sv := fun τ => (De τ).bind fun p => (p.2[i]?).bind fun o => o.bind fun _ => (Dk p.2).bind fun r => (r.2[i]?).bind fun o => o.bind fun x => match x with
  | .dct true true ks vs => if (p.1.pure && pureL vs && rowsOk ks && r.1.row && decide (ks.length < sizeLine)) = true then (r.1.nkey).bind fun k => some (.next, r.2.set i (some (.dct true true (dputKs k r.1 ks) (dputVs k p.1 ks vs)))) else none
  | _ => none
section
variable {X : Cx} {q : Bool} {n : Nat}
/-- d[k] = e -/
theorem ss_dput {i : Nat} {y : Str} {k e : Expr} {Dk De : Ev} {yp tp pos : Pos} (hu : X.A.units + 65 < cLine) (he : SE q X e De) (hk : SO true X k Dk) (hN : X.N[i]? = some y := by rfl) (hv : Vis X.env.scope y := by first | exact Or.inl rfl | exact Or.inr (Or.inl rfl) | exact Or.inr (Or.inr rfl))
    (hd : (y == ("__debug__" : Str)) = false := by decide) (hcd : (y == ("__classdict__" : Str)) = false := by decide)
    (ha : ∀ v, assign (.Subscript (.Name y yp) k tp) X.env v = (do
      let ov ← holding [v] (eval (.Name y yp) X.env)
      let iv ← holding [v, ov] (eval k X.env)
      standAt tp
      holding [v, ov, iv] (setItem ov iv v)
      release [v, ov, iv] []) := by intro _; rfl)
    (hs : swapsWithSole [.Subscript (.Name y yp) k tp] e pos.line X.env = Pure.pure false := by rfl) (hw : swappedStores [.Subscript (.Name y yp) k tp] e X.env = Pure.pure none := by rfl)
    (h1 : (assignEach [.Subscript (.Name y yp) k tp] X.env).map (·.2) = [assign (.Subscript (.Name y yp) k tp) X.env] := by rfl) : SS n X (.Assign [.Subscript (.Name y yp) k tp] e pos) (dputM i Dk De) :=
  psI (ps_asg he (pg_sub (pe_var hN hv hd hcd) hk (set_dictN hu) ha) hs hw h1) fun D σ H ⟨F, τ, L, fl, τ', s, g, ev, post⟩ => by
    obtain ⟨⟨x, τ1⟩, e1, ev⟩ := bind_eq ev
    obtain ⟨y0, e0, ev⟩ := slot_some ev
    obtain ⟨⟨kx, τ2⟩, e2, ev⟩ := bind_eq ev
    obtain ⟨yv, e3, ev⟩ := slot_some ev
    dsimp only at ev e3 e0
    split at ev
    · rename_i ks vs
      split at ev
      · rename_i hp
        simp only [Bool.and_eq_true, decide_eq_true_eq] at hp
        obtain ⟨⟨⟨⟨p1, p2⟩, p3⟩, p4⟩, p5⟩ := hp
        obtain ⟨nk, hnk, ev⟩ := bind_eq ev
        cases ev
        refine ⟨F, τ, L, x, τ1, s, g, e1, fun v F1 H1 L1 Lr hv1 s1 st1 => ?_⟩
        have hLr := hv1.pure_nil p1
        subst hLr
        rw [List.append_nil] at st1
        obtain ⟨v0, _, _, a0, _⟩ := s1.at e0
        refine ⟨v0, a0, F1, τ1, L1, _, τ2, s1, st1.good, e2, fun vk F2 H2 L2 Lk hk2 s2 st2 => ?_⟩
        obtain ⟨v1, Li, Lq, a1, a2, p, _, _, _⟩ := s2.at e3
        rw [a0] at a1
        have ev1 : v0 = v1 := Option.some.inj (Option.some.inj a1)
        subst ev1
        obtain ⟨a, es, L0, rfl, hA, dn, nd, hkk, r1, r2⟩ := a2.dT_inv p3
        have hL0 := r2.pure_nil p2
        subst hL0
        have hA' : H2 a = some (DctT X.prog X.w a es) ∧ Li = [a] := by
          unfold AtD at hA
          simpa only [if_true] using hA
        obtain ⟨hHa, rfl⟩ := hA'
        have hlen : es.length < sizeLine := by
          have e := congrArg List.length hkk
          rw [List.length_map, List.length_map] at e
          omega
        refine ⟨a, es, nk, rfl, hHa, dn, ⟨F2, kx, Lk, hk2, hnk, p4⟩, hlen, ?_⟩
        have haL : a ∈ L2 := p.mem_iff.mpr (List.mem_append_right _ (List.mem_singleton.mpr rfl))
        have nF : ∀ b, F2 b → b ≠ a := fun b hb e => st2.good.nf a haL (e ▸ hb)
        have hv2 : VR X.prog X.w X.K F2 H2 v x [] := hv1.stepQ st2 st1.good.ft
        have hkp := hk2.pureV (row_pure p4)
        have up : ∀ {vs : List V} {zs : List Val}, VRs X.prog X.w X.K F2 H2 vs zs [] → VRs X.prog X.w X.K F2 (upd H2 a (DctT X.prog X.w a (putE nk vk v es))) vs zs [] := fun h => h.mono (fun _ z => z) (fun b hb => upd_ne (nF b hb)) fun b hb => nomatch hb
        have hAt : AtD F2 (upd H2 a (DctT X.prog X.w a (putE nk vk v es))) true a (DctT X.prog X.w a (putE nk vk v es)) [] [a] := by
          show (if true = true then _ else _)
          rw [if_pos rfl]
          exact ⟨upd_same, rfl⟩
        have new : VR X.prog X.w X.K F2 (upd H2 a (DctT X.prog X.w a (putE nk vk v es))) (.ref a) (.dct true true (dputKs nk kx ks) (dputVs nk x ks vs)) [a] :=
          .dT hAt (put_nodup nk vk v nd).1 (put_keys nk vk v kx hkk hnk) (up (put_krel nk vk v kx hkk r1 hkp)) (up (put_vrel nk vk v x hkk r2 hv2))
        obtain ⟨L3, s3, st3⟩ := slot_mut s2 st2.good e3 a0 (fun Lj hj => by
          obtain ⟨a', es', L0', ea, hA2, _, _, _, _, r3⟩ := hj.dT_inv p3
          cases ea
          have hl := r3.pure_nil p2
          subst hl
          unfold AtD at hA2
          simp only [if_true] at hA2
          exact hA2.2) new
        exact post σ F2 _ _ s3 ((st1.trans st2).andT.weak.trans st3) .refl
      · cases ev
    · cases ev
/-! sorted(d) -/
def rSortD (P : Program) (w : World) (K : PySem.W.Frag) : List V → Hp → VK → Prop := fun vs H Q => ∃ F a es ys, vs = [V.ref a] ∧ DN P w K H a es ∧ VRs P w K F H (es.map (·.2.1)) ys [] ∧ sortOk ys = true ∧ (∀ y ∈ ys, (y.nkey).isSome = true) ∧
  ∀ p' ws, H p' = none → VRs P w K F H ws (ys.mergeSort leB) [] → Q (.ref p') (upd H p' (.lst ws))
theorem keys_vals : ∀ {es : List En} {ds : List DictEntry}, Paired (fun (e : En) (d : DictEntry) => RelV e.2.1 d.key) es ds → Vals (es.map (·.2.1)) (ds.map (·.key))
  | _, _, .nil => .nil
  | _, _, .cons r t => .cons r (keys_vals t)
theorem XsOf.kvals {P : Program} {w : World} : ∀ {es : List En} {xs : List (NestedKey × Addr × Value)}, XsOf es xs → Vals (es.map (·.2.1)) ((xs.map (entryOfKey (nestedKind P w))).map (·.key))
  | _, _, .nil => .nil
  | _, _, .cons (a := e) (b := x) r t => .cons (show RelV e.2.1 (.ref x.2.1) by rw [r.2.1]; rfl) (XsOf.kvals t)
theorem cr_sortD (hc : X.calm = true) (hu : X.A.units + 65 < cLine) : CallR X (.builtin "sorted") (rSortD X.prog X.w X.K) := by
  intro pins s σ H vs us Q I r ⟨F, p, es, ys, e, dn, hv, ok, hk, post⟩
  subst e
  rw [Vals.ref1 r]
  obtain ⟨al, dep, able⟩ := sortOk_inv ok
  obtain ⟨lo, hl2, xs, hx, nd, o, ds, ep, ho, hcl, hd, ht, _, _⟩ := dn.at I
  have rv : Vals (es.map (·.2.1)) (ds.toList.map (·.key)) := by rw [ht]; exact hx.kvals
  have each := pairs_of hv rv
  have dsz : ds.size ≤ sizeLine := by
    have e1 : ds.size = xs.length := by rw [← Array.length_toList, ht, List.length_map]
    have e2 := Paired.length hx
    omega
  refine Calls.call_function_entry kind_sorted plain_sorted entry_sorted (args_sorted1 _) ?_
  unfold Builtin.«sorted»
  refine wpAny_bind (m := checkCount "sorted" 1 1 _) (wpAny_pure ?_)
  refine wpAny_bind (PySem.W.kdu_collect (A := X.A.in1) (KdlSrc.rawDict (es := ds) (ep := ep) lo) (I.ok.hd hc) ⟨o, ho, hcl, hd⟩ dsz fun h' tk acc k1 hacc => ?_)
  have hout : acc.toList = ds.toList.map (·.key) := by
    refine List.ext_getElem? fun i => ?_
    rw [Array.getElem?_toList, List.getElem?_map, Array.getElem?_toList]
    rcases Nat.lt_or_ge i ds.size with hi | hi
    · have hi2 : i < acc.size := by rw [hacc.1]; exact hi
      rw [Array.getElem?_eq_getElem hi2, Array.getElem?_eq_getElem hi]
      obtain ⟨_, e⟩ := hacc.2 i _ (Array.getElem?_eq_getElem hi2)
      rw [e]
      rfl
    · rw [Array.getElem?_eq_none hi, Array.getElem?_eq_none (by rw [hacc.1]; exact hi)]
      rfl
  rw [hout]
  generalize hgo : ds.toList.map (·.key) = out at each hout rv
  have hlen : (es.map (·.2.1)).length = ys.length := hv.length
  have snd : ((es.map (·.2.1)).zip ys).map (·.2) = ys := zip_snd hlen
  generalize hgb : (es.map (·.2.1)).zip ys = bs at each snd
  have inYs : ∀ b ∈ bs, b.2 ∈ ys := fun b hb => by rw [← snd]; exact List.mem_map.mpr ⟨b, hb, rfl⟩
  have olen : out.length ≤ sizeLine := by
    rw [← hgo, List.length_map, Array.length_toList]
    exact dsz
  refine wpAny_bind (wpAny_newList ?_ olen)
  have hoL : (h'.push (seqObj "list" out.toArray 0)).get? h'.objs.size = some (seqObj "list" out.toArray 0) := Heap.get?_push_size _ rfl
  have map2 : bs.map (fun b => b.2.toD) = (bs.map (·.2)).map Val.toD := by rw [List.map_map]; rfl
  have al2 : PySem.W.AllAlike (bs.map fun b => b.2.toD) := by rw [map2, snd]; exact alikeL_all al
  have able2 : PySem.W.Sortable (bs.map fun b => b.2.toD) := by rw [map2, snd]; exact able
  have reads0 := reads_each I each fun b hb => (dep _ (inYs b hb)).2
  have reads1 : EachIs (fun v b => ∃ as, Reads (PySem.W.sortingHeap (h'.push (seqObj "list" out.toArray 0)) h'.objs.size out) v b.2.toD as) out bs :=
    reads0.mono fun v b ⟨as, r⟩ => ⟨as, PyProof.Rows.Reads.keeps (fun c u e => by
      have e1 := k1 c u e
      exact PySem.W.sortingHeap_old (Nat.ne_of_lt (Heap.lt_size e1)) (Heap.get?_push_of_some _ e1)) r⟩
  show wpAny _ _ _ _ _ { s with heap := h'.push (seqObj "list" out.toArray 0), toks := tk }
  refine wpAny_bind (wpAny_holding (wpAny_call_entry slot_list_sort ⟨_, hoL, rfl⟩ entry_list_sort (PySem.W.list_sort_vals (κ := PySem.W.dataKind (PySem.W.sortingHeap (h'.push (seqObj "list" out.toArray 0)) h'.objs.size out) (bs.map fun b => b.2.toD)) hoL
    (PySem.W.SortsAt.data (s := { s with heap := PySem.W.sortingHeap (h'.push (seqObj "list" out.toArray 0)) h'.objs.size out, toks := tk }) (PySem.W.each_map (R := fun v d => ∃ as, Reads (PySem.W.sortingHeap (h'.push (seqObj "list" out.toArray 0)) h'.objs.size out) v d as) (fun b : V × Val => b.2.toD) reads1) al2 able2 (PySem.W.bound_map fun b hb => ?_)) olen ⟨.none, rfl, ?_⟩) (args_list_sort _)))
  · have := (dep _ (inYs b hb)).1
    have e1 : X.A.in1.in1.units = X.A.units + 2 := rfl
    first | omega | (show X.A.in1.in1.units + _ < _; omega) | (show X.A.units + 2 + _ < _; omega) | (show X.A.units + 3 + _ < _; omega)
  · have each2 := PySem.W.sortVals_data false each reads1 al2
    generalize PySem.W.sortVals _ false out out = fin at each2 ⊢
    obtain ⟨c, hcc⟩ := PyProof.Rows.sortedHeap_at (vs := out) (out := fin.toArray) hoL
    obtain ⟨v1, v2⟩ := of_pairs each2
    have e3 := sort_snd bs
    rw [e3, snd] at v1
    generalize (bs.mergeSort (PySem.W.dataLe false fun b => b.2.toD)).map (·.1) = ws at v1 v2
    have I1 : L2.Inv X pins σ H { s with heap := h', toks := tk } := I.kept k1
    have hn : H h'.objs.size = none := I1.hok.fresh (Nat.le_refl _)
    have kp : ∀ b u, h'.get? b = some u → (PyProof.Rows.sortedHeap (h'.push (seqObj "list" out.toArray 0)) h'.objs.size out fin.toArray).get? b = some u := fun b u q => by
      have hlt := Heap.lt_size q
      rw [sortedHeap_old (Nat.ne_of_lt hlt) (by rw [size_push']; exact Nat.lt_succ_of_lt hlt)]
      exact Heap.get?_push_of_some _ q
    have wl : ws.length ≤ sizeLine := by
      rw [v1.length, (List.mergeSort_perm _ _).length_eq, ← hlen, List.length_map]
      exact hl2
    have J : L2.Inv X pins σ (upd H h'.objs.size (.lst ws)) { s with heap := PyProof.Rows.sortedHeap (h'.push (seqObj "list" out.toArray 0)) h'.objs.size out fin.toArray, toks := tk } :=
      I1.laid (t' := tk) kp (Nat.le_refl _) ⟨wl, _, c, by simpa using v2, hcc⟩
    exact wpAny_pure ⟨_, rfl, ⟨.ref _, _, J, rfl, post _ ws hn v1⟩⟩
end
def sortDctV (x : Val) : Option Val := match x with
  | .dct _ true ks _ => if (rowsOk ks && sortOk ks) = true then some (.lst true (ks.mergeSort leB)) else none
  | _ => none
section
variable {X : Cx} {e : Expr} {q : Bool} {D : Ev} {p pos : Pos}
/-- sorted(d) -/
theorem se_sortdct (hc : X.calm = true) (hu : X.A.units + 65 < cLine) (h1 : X.mg "sorted" = none) (he : SO q X e D) (hg1 : Gl X "sorted" := by rfl)
    (ha : starEach (e :: []) X.env = (false, eval e X.env) :: starEach [] X.env := by rfl) :
    SE q X (.Call (.Name "sorted" p) [e] [] pos) (c1 sortDctV D) := by
  refine peI (pe_callB (p := p) (pos := pos) (cr_sortD hc hu) hg1 h1 (by decide +kernel) (pa_cons he pa_nil ha) (he := ha)) fun σ H Q ⟨F, τ, L, z, τ', s, g, ev, post⟩ => ?_
  obtain ⟨⟨x, τ1⟩, e1, ev⟩ := bind_eq ev
  obtain ⟨z', e2, ev⟩ := bind_eq ev
  cases ev
  unfold sortDctV at e2
  split at e2
  · rename_i m ks vs heq
    dsimp only at heq
    subst heq
    split at e2
    · rename_i ok
      rw [Bool.and_eq_true] at ok
      cases e2
      refine ⟨F, τ, L, _, _, s, g, e1, fun v F1 H1 L1 Lr hv s1 st1 => ?_⟩
      obtain ⟨a, es, L0, rfl, hA, dn, nd, hkk, r1, r2⟩ := hv.dT_inv ok.1
      refine ⟨F1, a, es, ks, rfl, dn, r1, ok.2, fun y hy => ?_, fun p' ws' np' hw => ?_⟩
      · obtain ⟨_, _, k, _, hk, _⟩ := Val.row_inv (rowsOk_mem ok.1 y hy)
        rw [hk]; rfl
      · exact post_lst st1.good.ft (fun u F2 H2 M h2 st3 => post u F2 H2 L1 M h2 (s1.stepQ st3 st1.good.ft) (st1.op st3)) hw np'
    · cases e2
  · cases e2
end
end MV
end

section
set_option maxHeartbeats 4000000
/-! xs.append(e) -/
namespace MV
open PySem PySem.Spec PyProof.Rows L2
def appendM (i : Nat) (De : Ev) : Sv := fun τ => (τ[i]?).bind fun o => o.bind fun y => match y with
  | .lst true _ => (De τ).bind fun p => (p.2[i]?).bind fun o => o.bind fun x => match x with
    | .lst true xs => if (p.1.pure && pureL xs && decide (xs.length < sizeLine)) = true then some (.next, p.2.set i (some (.lst true (xs ++ [p.1])))) else none
    | _ => none
  | _ => none
section
variable {X : Cx} {q : Bool} {n : Nat}
theorem ss_append {i : Nat} {y : Str} {e : Expr} {De : Ev} {yp ap cp pos : Pos} (he : SE q X e De) (hN : X.N[i]? = some y := by rfl) (hv : Vis X.env.scope y := by first | exact Or.inl rfl | exact Or.inr (Or.inl rfl) | exact Or.inr (Or.inr rfl))
    (hd : (y == ("__debug__" : Str)) = false := by decide) (hcd : (y == ("__classdict__" : Str)) = false := by decide)
    (hbase : attributeBase (.Name y yp) "append" X.env (eval (.Name y yp) X.env) = eval (.Name y yp) X.env := by rfl)
    (hfew : ((backTo cp (starEach (e :: []) X.env)).all (fun x => !x.1) && (backToKw cp (keywordEach [] X.env)).all (fun x => x.1.isSome)
      && decide ((e :: []).length + ([] : List Keyword).length + (if ([] : List Keyword).isEmpty then 0 else 1) < 30)) = true := by rfl)
    (hline : (ap.endLine == cp.line) = true := by rfl) (h0 : starEach (e :: []) X.env = (false, eval e X.env) :: starEach [] X.env := by rfl) (hplain : (backTo cp (starEach [] X.env)).any (·.1) = false := by rfl)
    (hs : swapsWith (.Call (.Attribute (.Name y yp) "append" ap) [e] [] cp) none pos.line X.env = Pure.pure false := by rfl) :
    SS n X (.Expr (.Call (.Attribute (.Name y yp) "append" ap) [e] [] cp) pos) (appendM i De) :=
  psI (ps_expr (pe_bm PySem.F.plainAttrs_list PySem.F.slot_list_append PySem.F.type_list_append mt_append (pe_var hN hv hd hcd) (pa_cons he pa_nil h0) hbase hfew hline h0 hplain) hs) fun D σ H ⟨F, τ, L, fl, τ', s, g, ev, post⟩ => by
    obtain ⟨y0, e0, ev⟩ := slot_some ev
    split at ev
    · obtain ⟨⟨x, τ1⟩, e1, ev⟩ := bind_eq ev
      obtain ⟨yv, e3, ev⟩ := slot_some ev
      dsimp only at ev e3
      split at ev
      · rename_i xs
        split at ev
        · rename_i hp
          simp only [Bool.and_eq_true, decide_eq_true_eq] at hp
          obtain ⟨⟨p1, p2⟩, p3⟩ := hp
          cases ev
          obtain ⟨v0, _, _, a0, r0, _⟩ := s.at e0
          obtain ⟨a, vs0, _, rfl, hH0, _, _⟩ := r0.lstT_inv
          refine ⟨.ref a, a0, .inl ⟨rfl, vs0, .inl (.inl hH0)⟩, F, τ, L, x, τ1, s, g, e1, fun v F1 H1 L1 Lr hv1 s1 st1 => ?_⟩
          have hLr := hv1.pure_nil p1
          subst hLr
          rw [List.append_nil] at st1
          obtain ⟨v1, Li, Lq, a1, a2, p, _, _, _⟩ := s1.at e3
          rw [a0] at a1
          have ev1 : V.ref a = v1 := Option.some.inj (Option.some.inj a1)
          subst ev1
          obtain ⟨a', vs, L0, ea, hHa, hvs, rfl⟩ := a2.lstT_inv
          cases ea
          have hL0 := hvs.pure_nil p2
          subst hL0
          refine ⟨a, vs, v, rfl, rfl, hHa, by rw [hvs.length]; exact p3, ?_⟩
          have haL : a ∈ L1 := p.mem_iff.mpr (List.mem_append_right _ (List.mem_singleton.mpr rfl))
          have nF : ∀ b, F1 b → b ≠ a := fun b hb e => st1.good.nf a haL (e ▸ hb)
          have hnew : VRs X.prog X.w X.K F1 (upd H1 a (.lst (vs ++ [v]))) (vs ++ [v]) (xs ++ [x]) [] :=
            (VRs.append hvs (.cons hv1 .nil)).mono (fun _ z => z) (fun b hb => upd_ne (nF b hb)) (fun b hb => nomatch hb)
          have hA : At F1 (upd H1 a (.lst (vs ++ [v]))) true a (.lst (vs ++ [v])) [] [a] := by
            show (if true = true then _ else _)
            rw [if_pos rfl]
            exact ⟨upd_same, rfl⟩
          obtain ⟨L3, s3, st3⟩ := slot_mut s1 st1.good e3 a0 (fun Lj hj => by
            obtain ⟨a', vs', L0', ea, _, r3, rfl⟩ := hj.lstT_inv
            cases ea
            rw [r3.pure_nil p2]) (.lst hA hnew)
          exact post σ F1 _ _ s3 (st1.weak.trans st3) .refl
        · cases ev
      · cases ev
    · cases ev
end
end MV
end

section
set_option maxHeartbeats 4000000
/-! mirrors of typed values: what slots hold is told by a pattern; plain Lean values behind encoders -/
namespace MV
open PySem

/-- what is known of slots (none: nothing) -/
def Fit : Sl → Sl → Prop
  | [], [] => True
  | none :: P, _ :: τ => Fit P τ
  | some v :: P, o :: τ => o = some v ∧ Fit P τ
  | _, _ => False
theorem Fit.get : ∀ {P τ : Sl} {i : Nat} {v : Val}, Fit P τ → P[i]? = some (some v) → τ[i]? = some (some v)
  | [], [], _, _, _, h => by simp at h
  | [], _ :: _, _, _, f, _ => f.elim
  | none :: P, [], _, _, f, _ => f.elim
  | some _ :: P, [], _, _, f, _ => f.elim
  | none :: P, o :: τ, 0, v, _, h => by simp at h
  | some w :: P, o :: τ, 0, v, f, h => by
    simp only [List.getElem?_cons_zero, Option.some.injEq] at h
    subst h
    rw [f.1]; rfl
  | none :: P, o :: τ, i + 1, v, f, h => Fit.get (P := P) (τ := τ) (i := i) f (by simpa using h)
  | some w :: P, o :: τ, i + 1, v, f, h => Fit.get (P := P) (τ := τ) (i := i) f.2 (by simpa using h)
theorem Fit.set : ∀ {P τ : Sl} (i : Nat) (v : Val), Fit P τ → Fit (P.set i (some v)) (τ.set i (some v))
  | [], [], _, _, _ => trivial
  | [], _ :: _, _, _, f => f.elim
  | none :: P, [], _, _, f => f.elim
  | some _ :: P, [], _, _, f => f.elim
  | none :: P, o :: τ, 0, v, f => ⟨rfl, f⟩
  | some w :: P, o :: τ, 0, v, f => ⟨rfl, f.2⟩
  | none :: P, o :: τ, i + 1, v, f => Fit.set (P := P) (τ := τ) i v f
  | some w :: P, o :: τ, i + 1, v, f => ⟨f.1, Fit.set (P := P) (τ := τ) i v f.2⟩
theorem Fit.any : ∀ {P τ : Sl} {i : Nat} (o : Option Val), Fit P τ → P[i]? = some none → Fit P (τ.set i o)
  | [], [], _, _, _, h => by simp at h
  | [], _ :: _, _, _, f, _ => f.elim
  | none :: P, [], _, _, f, _ => f.elim
  | some _ :: P, [], _, _, f, _ => f.elim
  | none :: P, p :: τ, 0, o, f, _ => f
  | some w :: P, p :: τ, 0, o, f, h => by simp at h
  | none :: P, p :: τ, i + 1, o, f, h => Fit.any (P := P) (τ := τ) o f (by simpa using h)
  | some w :: P, p :: τ, i + 1, o, f, h => ⟨f.1, Fit.any (P := P) (τ := τ) o f.2 (by simpa using h)⟩
theorem Fit.wipe {P : Sl} : ∀ {own : List Nat} {τ : Sl}, Fit P τ → (∀ i ∈ own, P[i]? = some none) → Fit P (wipeM τ own)
  | [], _, f, _ => f
  | i :: own, τ, f, h => (Fit.wipe (own := own) f fun j hj => h j (List.mem_cons_of_mem _ hj)).any none (h i List.mem_cons_self)
theorem Fit.self : ∀ P : Sl, Fit P P
  | [] => trivial
  | none :: P => Fit.self P
  | some v :: P => ⟨rfl, Fit.self P⟩
/-- the second pattern tells less -/
def Le : Sl → Sl → Prop
  | [], [] => True
  | _ :: P, none :: Q => Le P Q
  | p :: P, some v :: Q => p = some v ∧ Le P Q
  | _, _ => False
theorem le_nil : Le [] [] := trivial
theorem le_any {P Q : Sl} {p : Option Val} (h : Le P Q) : Le (p :: P) (none :: Q) := h
theorem le_eq {P Q : Sl} {v : Val} (h : Le P Q) : Le (some v :: P) (some v :: Q) := ⟨rfl, h⟩
theorem Fit.le : ∀ {P Q τ : Sl}, Fit P τ → Le P Q → Fit Q τ
  | [], [], [], _, _ => trivial
  | [], [], _ :: _, f, _ => f.elim
  | [], _ :: _, _, _, l => l.elim
  | none :: P, [], _, _, l => l.elim
  | some _ :: P, [], _, _, l => l.elim
  | none :: P, none :: Q, [], f, _ => f.elim
  | some _ :: P, none :: Q, [], f, _ => f.elim
  | none :: P, none :: Q, o :: τ, f, l => Fit.le (P := P) (Q := Q) (τ := τ) f l
  | some _ :: P, none :: Q, o :: τ, f, l => Fit.le (P := P) (Q := Q) (τ := τ) f.2 l
  | none :: P, some v :: Q, _, _, l => nomatch l.1
  | some w :: P, some v :: Q, [], f, _ => f.elim
  | some w :: P, some v :: Q, o :: τ, f, l => ⟨f.1.trans l.1, Fit.le (P := P) (Q := Q) (τ := τ) f.2 l.2⟩

/-! the judgements -/
def XE (P : Sl) (D : Ev) (v : Val) : Prop := ∀ τ, Fit P τ → ∃ τ', D τ = some (v, τ') ∧ Fit P τ'
def XR (P : Sl) (D : Ev) (v : Val) : Prop := ∀ τ, Fit P τ → ∃ τ', D τ = some (v, τ')
def XEs (P : Sl) (D : Evs) (vs : List Val) : Prop := ∀ τ, Fit P τ → ∃ τ', D τ = some (vs, τ') ∧ Fit P τ'
def XT (P : Sl) (T : Tv) (b : Bool) : Prop := ∀ τ, Fit P τ → ∃ τ', T τ = some (b, τ') ∧ Fit P τ'
def XP (P : Sl) (D : Pv) (o : Option Int) : Prop := ∀ τ, Fit P τ → ∃ τ', D τ = some (o, τ') ∧ Fit P τ'
def XG (P : Sl) (T : Tg) (x : Val) (Q : Sl) : Prop := ∀ τ, Fit P τ → ∃ τ', T x τ = some τ' ∧ Fit Q τ'
def XGs (P : Sl) (T : Tgs) (xs : List Val) (Q : Sl) : Prop := ∀ τ, Fit P τ → ∃ τ', T xs τ = some τ' ∧ Fit Q τ'
inductive Out where
  | ret (v : Val)
  | nx (Q : Sl)
def XO (P : Sl) (B : Sv) : Out → Prop
  | .ret v => ∀ τ, Fit P τ → ∃ τ', B τ = some (.ret v, τ')
  | .nx Q => ∀ τ, Fit P τ → ∃ τ', B τ = some (.next, τ') ∧ Fit Q τ'
section
variable {P Q : Sl} {D Da Db Dc : Ev} {Ds : Evs} {A B : Tv} {v w z : Val} {vs : List Val} {a b : Bool} {i : Nat}
theorem x_rd (h : P[i]? = some (some v)) : XE P (rdO i) v := fun τ f => ⟨τ, s_rdO (f.get h), f⟩
theorem x_rdE (h : P[i]? = some (some v)) (p : v.pure = true) : XE P (rdE i) v := fun τ f => ⟨τ, s_rdE (f.get h) p, f⟩
theorem xr_mv (h : P[i]? = some (some v)) : XR P (mvE i) v := fun τ f => ⟨_, s_mvE (f.get h)⟩
theorem x_c : XE P (cC v) v := fun τ f => ⟨τ, s_cC, f⟩
theorem XE.r (h : XE P D v) : XR P D v := fun τ f => let ⟨τ', e, _⟩ := h τ f; ⟨τ', e⟩
theorem xs_nil : XEs P nilM [] := fun τ f => ⟨τ, s_nil, f⟩
theorem xs_cons (h : XE P D v) (t : XEs P Ds vs) : XEs P (consM D Ds) (v :: vs) := fun τ f =>
  let ⟨τ1, e1, f1⟩ := h τ f; let ⟨τ2, e2, f2⟩ := t τ1 f1; ⟨τ2, s_cons e1 e2, f2⟩
theorem x_c1 {g : Val → Option Val} (h : XE P D v) (hg : g v = some w) : XE P (c1 g D) w := fun τ f =>
  let ⟨τ1, e1, f1⟩ := h τ f; ⟨τ1, s_c1 e1 hg, f1⟩
theorem x_c2 {g : Val → Val → Option Val} (h1 : XE P Da v) (h2 : XE P Db w) (hg : g v w = some z) : XE P (c2 g Da Db) z := fun τ f =>
  let ⟨τ1, e1, f1⟩ := h1 τ f; let ⟨τ2, e2, f2⟩ := h2 τ1 f1; ⟨τ2, s_c2 e1 e2 hg, f2⟩
theorem x_cN {g : List Val → Option Val} (h : XEs P Ds vs) (hg : g vs = some z) : XE P (cN g Ds) z := fun τ f =>
  let ⟨τ1, e1, f1⟩ := h τ f; ⟨τ1, s_cN e1 hg, f1⟩
theorem x_fr (h : XE P D v) (e : v.frz = w) : XE P (frE D) w := fun τ f =>
  let ⟨τ1, e1, f1⟩ := h τ f; ⟨τ1, by rw [s_fr e1, e], f1⟩
theorem x_call {f : List Val → Option Val} (h : XEs P Ds vs) (p : pureL vs = true) (hf : f vs = some z) : XE P (callM f Ds) z := fun τ ft =>
  let ⟨τ1, e1, f1⟩ := h τ ft; ⟨τ1, s_callM e1 p hf, f1⟩
theorem x_and (h1 : XE P Da (.bl a)) (h2 : a = true → XE P Db (.bl b)) : XE P (andV Da Db) (.bl (a && b)) := fun τ f => by
  obtain ⟨τ1, e1, f1⟩ := h1 τ f
  cases a with
  | false => exact ⟨τ1, s_vand1 e1, f1⟩
  | true => obtain ⟨τ2, e2, f2⟩ := h2 rfl τ1 f1; exact ⟨τ2, s_vand2 e1 e2, f2⟩
theorem x_or (h1 : XE P Da (.bl a)) (h2 : a = false → XE P Db (.bl b)) : XE P (orV Da Db) (.bl (a || b)) := fun τ f => by
  obtain ⟨τ1, e1, f1⟩ := h1 τ f
  cases a with
  | true => exact ⟨τ1, s_vor1 e1, f1⟩
  | false => obtain ⟨τ2, e2, f2⟩ := h2 rfl τ1 f1; exact ⟨τ2, s_vor2 e1 e2, f2⟩
theorem x_not (h : XE P Da (.bl a)) : XE P (notV Da) (.bl (!a)) := fun τ f => let ⟨τ1, e1, f1⟩ := h τ f; ⟨τ1, s_vnot e1, f1⟩
theorem x_if {α : Type} {e : α → Val} {x y : α} (hc : XT P A a) (h1 : a = true → XE P Da (e x)) (h2 : a = false → XE P Db (e y)) : XE P (ifV A Da Db) (e (cond a x y)) := fun τ f => by
  obtain ⟨τ1, e1, f1⟩ := hc τ f
  cases a with
  | true => obtain ⟨τ2, e2, f2⟩ := h1 rfl τ1 f1; exact ⟨τ2, s_if1 e1 e2, f2⟩
  | false => obtain ⟨τ2, e2, f2⟩ := h2 rfl τ1 f1; exact ⟨τ2, s_if2 e1 e2, f2⟩
theorem x_ch {g g' : Val → Val → Option Val} {x y u : Val} (h1 : XE P Da x) (h2 : XE P Db y) (h : g x y = some (.bl a)) (h3 : XE P Dc u) (h' : g' y u = some (.bl b)) : XE P (chM g g' Da Db Dc) (.bl (a && b)) := fun τ f => by
  obtain ⟨τ1, e1, f1⟩ := h1 τ f
  obtain ⟨τ2, e2, f2⟩ := h2 τ1 f1
  cases a with
  | true => obtain ⟨τ3, e3, f3⟩ := h3 τ2 f2; exact ⟨τ3, s_ch2 e1 e2 h e3 h', f3⟩
  | false => exact ⟨τ2, s_ch1 e1 e2 h, f2⟩
theorem xp_n : XP P partN none := fun τ f => ⟨τ, s_pN, f⟩
theorem xp_s {k : Int} (h : XE P D (.int k)) : XP P (partS D) (some k) := fun τ f => let ⟨τ1, e1, f1⟩ := h τ f; ⟨τ1, s_pS e1, f1⟩
theorem x_sl {L R : Pv} {lo hi : Option Int} (h1 : XE P D v) (h2 : XP P L lo) (h3 : XP P R hi) (h : sliceV v lo hi = some z) : XE P (cSl D L R) z := fun τ f =>
  let ⟨τ1, e1, f1⟩ := h1 τ f; let ⟨τ2, e2, f2⟩ := h2 τ1 f1; let ⟨τ3, e3, f3⟩ := h3 τ2 f2; ⟨τ3, s_sl e1 e2 e3 h, f3⟩
theorem xt_v (h : XE P D (.bl a)) : XT P (tst D) a := fun τ f => let ⟨τ1, e1, f1⟩ := h τ f; ⟨τ1, s_tst e1, f1⟩
theorem xt_not (h : XT P A a) : XT P (MV.notM A) (!a) := fun τ f => let ⟨τ1, e1, f1⟩ := h τ f; ⟨τ1, s_not e1, f1⟩
theorem xt_and (h1 : XT P A a) (h2 : a = true → XT P B b) : XT P (MV.andM A B) (a && b) := fun τ f => by
  obtain ⟨τ1, e1, f1⟩ := h1 τ f
  cases a with
  | false => exact ⟨τ1, s_and1 e1, f1⟩
  | true => obtain ⟨τ2, e2, f2⟩ := h2 rfl τ1 f1; exact ⟨τ2, s_and2 e1 e2, f2⟩
theorem xt_or (h1 : XT P A a) (h2 : a = false → XT P B b) : XT P (MV.orM A B) (a || b) := fun τ f => by
  obtain ⟨τ1, e1, f1⟩ := h1 τ f
  cases a with
  | true => exact ⟨τ1, s_or1 e1, f1⟩
  | false => obtain ⟨τ2, e2, f2⟩ := h2 rfl τ1 f1; exact ⟨τ2, s_or2 e1 e2, f2⟩
theorem xt_yes : XT P yesM true := fun τ f => ⟨τ, rfl, f⟩
/-! what is walked -/
theorem xi_seq (h : XE P D v) (hs : v.seq? = some vs) (p : pureL vs = true) : XEs P (seqI D) vs := fun τ f =>
  let ⟨τ1, e1, f1⟩ := h τ f; ⟨τ1, by rw [s_seqI e1 hs, frzL_of_pure vs p], f1⟩
theorem xi_enum (h : XE P D v) (hs : v.seq? = some vs) (p : pureL vs = true) : XEs P (enumI D) (enumF 0 vs) := fun τ f =>
  let ⟨τ1, e1, f1⟩ := h τ f; ⟨τ1, by rw [s_enumI e1 hs, frzL_of_pure vs p], f1⟩
theorem xi_zipT {ws : List Val} (h : XEs P Ds [.tup vs, .tup ws]) (p : pureL vs = true) (p' : pureL ws = true) : XEs P (zipI Ds) (zipF vs ws) := fun τ f =>
  let ⟨τ1, e1, f1⟩ := h τ f; ⟨τ1, by rw [s_zipT e1, frzL_of_pure vs p, frzL_of_pure ws p'], f1⟩
theorem xi_rng1 {k : Int} (h : XEs P Ds [.int k]) (hk : inR k = true) : XEs P (rng1I Ds) (rngL 0 k) := fun τ f =>
  let ⟨τ1, e1, f1⟩ := h τ f; ⟨τ1, s_rng1 e1 hk, f1⟩
theorem xi_rng2 {k l : Int} (h : XEs P Ds [.int k, .int l]) (hk : inR k = true) (hl : inR l = true) : XEs P (rng2I Ds) (rngL k l) := fun τ f =>
  let ⟨τ1, e1, f1⟩ := h τ f; ⟨τ1, s_rng2 e1 hk hl, f1⟩
/-! targets -/
theorem xg_n : XG P (nameT i) v (P.set i (some v)) := fun τ f => ⟨_, rfl, f.set i v⟩
theorem xgs_nil : XGs P nilT [] P := fun τ f => ⟨τ, rfl, f⟩
theorem xgs_cons {T : Tg} {U : Tgs} {Q R : Sl} (h : XG P T v Q) (t : XGs Q U vs R) : XGs P (consT T U) (v :: vs) R := fun τ f => by
  obtain ⟨τ1, e1, f1⟩ := h τ f
  obtain ⟨τ2, e2, f2⟩ := t τ1 f1
  exact ⟨τ2, by rw [ap_consT]; simp only [e1, Option.bind_some, e2], f2⟩
theorem xg_t {n : Nat} {U : Tgs} (hn : vs.length = n) (t : XGs P U vs Q) : XG P (tupT n U) (.tup vs) Q := fun τ f => by
  obtain ⟨τ2, e2, f2⟩ := t τ f
  exact ⟨τ2, by rw [ap_tupT]; simp only [hn, if_true, e2], f2⟩
end

/-! plain values -/
abbrev LetV {α β : Type} (a : α) (f : α → β) : β := f a
abbrev LetP {α : Type} (a : α) (C : α → Prop) : Prop := C a
section
variable {P Q : Sl} {D : Ev} {Ds : Evs} {T : Tv} {S R : Sv} {o : Out} {v : Val} {i j : Nat} {a : Bool}
theorem xo_ret (h : XR P D v) : XO P (retM D) (.ret v) := fun τ f => let ⟨τ1, e1⟩ := h τ f; ⟨τ1, s_ret e1⟩
theorem xo_end (h : Le P Q) : XO P nextM (.nx Q) := fun τ f => ⟨τ, s_next, f.le h⟩
theorem seq_nextM (τ : Sl) : seqM S nextM τ = S τ := by
  rw [ap_seqM]
  cases h : S τ with
  | none => rfl
  | some p =>
    obtain ⟨fl, τ'⟩ := p
    cases fl <;> rfl
theorem xo_one (h : XO P (seqM S nextM) o) : XO P S o := by
  cases o with
  | ret v => exact fun τ f => let ⟨τ', e⟩ := h τ f; ⟨τ', by rw [seq_nextM] at e; exact e⟩
  | nx Q => exact fun τ f => let ⟨τ', e, f'⟩ := h τ f; ⟨τ', by rw [seq_nextM] at e; exact e, f'⟩
/-- a statement that goes on, then the rest -/
theorem xo_seq {Q : Sl} (h : XO P S (.nx Q)) (r : XO Q R o) : XO P (seqM S R) o := by
  cases o with
  | ret v =>
    intro τ f
    obtain ⟨τ1, e1, f1⟩ := h τ f
    obtain ⟨τ2, e2⟩ := r τ1 f1
    exact ⟨τ2, s_seq e1 e2⟩
  | nx Q =>
    intro τ f
    obtain ⟨τ1, e1, f1⟩ := h τ f
    obtain ⟨τ2, e2, f2⟩ := r τ1 f1
    exact ⟨τ2, s_seq e1 e2, f2⟩
theorem xn_set (h : XE P D v) : XO P (setM i D) (.nx (P.set i (some v))) := fun τ f => let ⟨τ1, e1, f1⟩ := h τ f; ⟨_, s_set e1, f1.set i v⟩
theorem xn_asg {G : Tg} (h : XE P D v) (g : XG P G v Q) : XO P (asgM G D) (.nx Q) := fun τ f => by
  obtain ⟨τ1, e1, f1⟩ := h τ f
  obtain ⟨τ2, e2, f2⟩ := g τ1 f1
  exact ⟨τ2, s_asg e1 e2, f2⟩
theorem xn_par {x y : Val} (h : XEs P Ds [x, y]) : XO P (parM i j Ds) (.nx ((P.set i (some x)).set j (some y))) := fun τ f => by
  obtain ⟨τ1, e1, f1⟩ := h τ f
  exact ⟨_, s_par e1, (f1.set i x).set j y⟩
theorem xn_par3 {x y z : Val} {k : Nat} (h : XEs P Ds [x, y, z]) : XO P (parM3 i j k Ds) (.nx (((P.set i (some x)).set j (some y)).set k (some z))) := fun τ f => by
  obtain ⟨τ1, e1, f1⟩ := h τ f
  exact ⟨_, by rw [ap_parM3, e1]; rfl, ((f1.set i x).set j y).set k z⟩
theorem xn_if {β : Type} {st : β → Sl} {x y : β} (hc : XT P T a) (h1 : a = true → XO P S (.nx (st x))) (h2 : a = false → XO P R (.nx (st y))) : XO P (ifM T S R) (.nx (st (cond a x y))) := fun τ f => by
  obtain ⟨τ1, e1, f1⟩ := hc τ f
  cases a with
  | true => obtain ⟨τ2, e2, f2⟩ := h1 rfl τ1 f1; exact ⟨τ2, s_ifT e1 e2, f2⟩
  | false => obtain ⟨τ2, e2, f2⟩ := h2 rfl τ1 f1; exact ⟨τ2, s_ifF e1 e2, f2⟩
/-- both ways end alike -/
theorem xo_if {β : Type} {F : β → Out} {x y : β} (hc : XT P T a) (h1 : a = true → XO P S (F x)) (h2 : a = false → XO P R (F y)) : XO P (ifM T S R) (F (cond a x y)) := by
  cases a with
  | true =>
    show XO P (ifM T S R) (F x)
    have h := h1 rfl
    cases e : F x with
    | ret v =>
      rw [e] at h
      intro τ f
      obtain ⟨τ1, e1, f1⟩ := hc τ f
      obtain ⟨τ2, e2⟩ := h τ1 f1
      exact ⟨τ2, s_ifT e1 e2⟩
    | nx Q =>
      rw [e] at h
      intro τ f
      obtain ⟨τ1, e1, f1⟩ := hc τ f
      obtain ⟨τ2, e2, f2⟩ := h τ1 f1
      exact ⟨τ2, s_ifT e1 e2, f2⟩
  | false =>
    show XO P (ifM T S R) (F y)
    have h := h2 rfl
    cases e : F y with
    | ret v =>
      rw [e] at h
      intro τ f
      obtain ⟨τ1, e1, f1⟩ := hc τ f
      obtain ⟨τ2, e2⟩ := h τ1 f1
      exact ⟨τ2, s_ifF e1 e2⟩
    | nx Q =>
      rw [e] at h
      intro τ f
      obtain ⟨τ1, e1, f1⟩ := hc τ f
      obtain ⟨τ2, e2, f2⟩ := h τ1 f1
      exact ⟨τ2, s_ifF e1 e2, f2⟩
/-- if c: (it returns); rest -/
theorem xo_ifret {β : Type} {F : β → Out} {x y : β} {v : Val} (hv : F x = .ret v) (hc : XT P T a) (h1 : a = true → XO P S (F x)) (h2 : a = false → XO P R (F y)) : XO P (seqM (ifM T S nextM) R) (F (cond a x y)) := by
  cases a with
  | true =>
    show XO P _ (F x)
    have h := h1 rfl
    rw [hv] at h ⊢
    intro τ f
    obtain ⟨τ1, e1, f1⟩ := hc τ f
    obtain ⟨τ2, e2⟩ := h τ1 f1
    exact ⟨τ2, s_seqR (s_ifT e1 e2)⟩
  | false =>
    have e : XO P (ifM T S nextM) (.nx P) := by
      intro τ f
      obtain ⟨τ1, e1, f1⟩ := hc τ f
      exact ⟨τ1, s_ifF e1 s_next, f1⟩
    exact xo_seq e (h2 rfl)
end

/-! loops -/
inductive Fx (ρ σ : Type) where
  | ret (r : ρ)
  | nx (s : σ)
abbrev forV {α σ : Type} (xs : List α) (s : σ) (f : σ → α → σ) : σ := xs.foldl f s
def DFor {α σ : Type} : List α → σ → (σ → α → σ) → (σ → α → Prop) → Prop
  | [], _, _, _ => True
  | x :: r, s, f, d => d s x ∧ DFor r (f s x) f d
theorem DFor.of {α σ : Type} {f : σ → α → σ} {d : σ → α → Prop} (I : σ → Prop) : ∀ {xs : List α} {s : σ}, I s → (∀ s x, x ∈ xs → I s → d s x ∧ I (f s x)) → DFor xs s f d ∧ I (forV xs s f)
  | [], _, hi, _ => ⟨trivial, hi⟩
  | x :: r, s, hi, h => by
    obtain ⟨h1, h2⟩ := h s x List.mem_cons_self hi
    obtain ⟨h3, h4⟩ := DFor.of I (xs := r) h2 fun s y hy => h s y (List.mem_cons_of_mem _ hy)
    exact ⟨⟨h1, h3⟩, h4⟩
def forR {α ρ σ : Type} : List α → σ → (σ → α → Fx ρ σ) → Fx ρ σ
  | [], s, _ => .nx s
  | x :: r, s, f => match f s x with
    | .ret v => .ret v
    | .nx s' => forR r s' f
def DForR {α ρ σ : Type} : List α → σ → (σ → α → Fx ρ σ) → (σ → α → Prop) → Prop
  | [], _, _, _ => True
  | x :: r, s, f, d => d s x ∧ match f s x with
    | .ret _ => True
    | .nx s' => DForR r s' f d
abbrev outF {ρ σ : Type} (fr : ρ → Val) (st : σ → Sl) : Fx ρ σ → Out
  | .ret r => .ret (fr r)
  | .nx s => .nx (st s)
section
variable {α σ ρ : Type} {P : Sl} {I : Evs} {T : Tg} {B : Sv} {g : α → Val} {st : σ → Sl} {xs : List α} {f : σ → α → σ} {d : σ → α → Prop} {tp : σ → α → Sl}
theorem forL_run (hg : ∀ s x, d s x → XG (st s) T (g x) (tp s x)) (hb : ∀ s x, d s x → XO (tp s x) B (.nx (st (f s x)))) : ∀ {xs : List α} {s : σ} {τ : Sl}, Fit (st s) τ → DFor xs s f d → ∃ τ', forL T B (xs.map g) τ = some (.next, τ') ∧ Fit (st (forV xs s f)) τ'
  | [], s, τ, h, _ => ⟨τ, rfl, h⟩
  | x :: r, s, τ, h, hd => by
    obtain ⟨τ1, e1, f1⟩ := hg s x hd.1 τ h
    obtain ⟨τ2, e2, f2⟩ := hb s x hd.1 τ1 f1
    obtain ⟨τ3, e3, f3⟩ := forL_run hg hb (xs := r) f2 hd.2
    exact ⟨τ3, by rw [List.map_cons, forL, e1]; simp only [Option.bind_some, e2, e3], f3⟩
theorem xn_for {s0 : σ} (hI : XEs P I (xs.map g)) (hl : Le P (st s0)) (hd : DFor xs s0 f d) (hg : ∀ s x, d s x → XG (st s) T (g x) (tp s x)) (hb : ∀ s x, d s x → XO (tp s x) B (.nx (st (f s x)))) : XO P (forM I T B) (.nx (st (forV xs s0 f))) := fun τ ft => by
  obtain ⟨τ1, e1, f1⟩ := hI τ ft
  obtain ⟨τ2, e2, f2⟩ := forL_run hg hb (f1.le hl) hd
  exact ⟨τ2, s_for e1 e2, f2⟩
theorem forL_runR {fr : ρ → Val} {f : σ → α → Fx ρ σ} (hg : ∀ s x, d s x → XG (st s) T (g x) (tp s x)) (hb : ∀ s x, d s x → XO (tp s x) B (outF fr st (f s x))) : ∀ {xs : List α} {s : σ} {τ : Sl}, Fit (st s) τ → DForR xs s f d →
    match forR xs s f with
    | .ret r => ∃ τ', forL T B (xs.map g) τ = some (.ret (fr r), τ')
    | .nx s' => ∃ τ', forL T B (xs.map g) τ = some (.next, τ') ∧ Fit (st s') τ'
  | [], s, τ, h, _ => ⟨τ, rfl, h⟩
  | x :: r, s, τ, h, hd => by
    obtain ⟨τ1, e1, f1⟩ := hg s x hd.1 τ h
    have hb1 := hb s x hd.1
    have hd2 := hd.2
    unfold forR
    cases e : f s x with
    | ret v =>
      rw [e] at hb1
      obtain ⟨τ2, e2⟩ := hb1 τ1 f1
      exact ⟨τ2, by rw [List.map_cons, forL, e1]; simp only [Option.bind_some, e2]⟩
    | nx s' =>
      rw [e] at hb1 hd2
      obtain ⟨τ2, e2, f2⟩ := hb1 τ1 f1
      have ih := forL_runR hg hb (xs := r) f2 hd2
      dsimp only
      cases e3 : forR r s' f with
      | ret v =>
        rw [e3] at ih
        obtain ⟨τ3, e4⟩ := ih
        exact ⟨τ3, by rw [List.map_cons, forL, e1]; simp only [Option.bind_some, e2, e4]⟩
      | nx s2 =>
        rw [e3] at ih
        obtain ⟨τ3, e4, f4⟩ := ih
        exact ⟨τ3, by rw [List.map_cons, forL, e1]; simp only [Option.bind_some, e2, e4], f4⟩
theorem x_forR {fr : ρ → Val} {s0 : σ} {f : σ → α → Fx ρ σ} (hI : XEs P I (xs.map g)) (hl : Le P (st s0)) (hd : DForR xs s0 f d) (hg : ∀ s x, d s x → XG (st s) T (g x) (tp s x)) (hb : ∀ s x, d s x → XO (tp s x) B (outF fr st (f s x))) : XO P (forM I T B) (outF fr st (forR xs s0 f)) := by
  have key : ∀ τ, Fit P τ → match forR xs s0 f with
      | .ret r => ∃ τ', forM I T B τ = some (.ret (fr r), τ')
      | .nx s' => ∃ τ', forM I T B τ = some (.next, τ') ∧ Fit (st s') τ' := fun τ ft => by
    obtain ⟨τ1, e1, f1⟩ := hI τ ft
    have h := forL_runR hg hb (f1.le hl) hd
    cases e : forR xs s0 f with
    | ret r => rw [e] at h; obtain ⟨τ2, e2⟩ := h; exact ⟨τ2, s_for e1 e2⟩
    | nx s' => rw [e] at h; obtain ⟨τ2, e2, f2⟩ := h; exact ⟨τ2, s_for e1 e2, f2⟩
  cases e : forR xs s0 f with
  | ret r => rw [e] at key; exact key
  | nx s' => rw [e] at key; exact key
/-- what follows a block that may have returned -/
def bindR {ρ ρ' σ : Type} (o : Fx ρ σ) (r : ρ → ρ') (n : σ → ρ') : ρ' := match o with
  | .ret v => r v
  | .nx s => n s
theorem xo_seqR {β : Type} {F : β → Out} {fr : ρ → Val} {S R : Sv} {o : Fx ρ σ} {r : ρ → β} {n : σ → β} (h : XO P S (outF fr st o)) (hr : ∀ v, F (r v) = .ret (fr v)) (h2 : ∀ s, XO (st s) R (F (n s))) : XO P (seqM S R) (F (bindR o r n)) := by
  cases o with
  | ret v =>
    show XO P _ (F (r v))
    rw [hr v]
    exact fun τ f => let ⟨τ1, e1⟩ := h τ f; ⟨τ1, s_seqR e1⟩
  | nx s => exact xo_seq h (h2 s)
end
section
variable {α β : Type} {P : Sl} {I : Evs} {T : Tg} {C : Tv} {E : Ev} {own : List Nat} {g : α → Val} {e : β → Val} {xs : List α} {tp : α → Sl} {t : α → Bool} {f : α → β}
theorem lcL_run (hw : ∀ i ∈ own, P[i]? = some none) (hq : ∀ x τ, Fit (tp x) τ → Fit P (wipeM τ own)) : ∀ {xs : List α} {τ : Sl}, Fit P τ → (∀ x ∈ xs, XG P T (g x) (tp x) ∧ XT (tp x) C (t x) ∧ (t x = true → XE (tp x) E (e (f x)))) →
    ∃ τ', lcL T C E own (xs.map g) τ = some (((xs.filter t).map f).map e, τ') ∧ Fit P τ'
  | [], τ, h, _ => ⟨τ, rfl, h⟩
  | x :: r, τ, h, hx => by
    obtain ⟨hg, ht, he⟩ := hx x List.mem_cons_self
    obtain ⟨τ1, e1, f1⟩ := hg τ h
    obtain ⟨τ2, e2, f2⟩ := ht τ1 f1
    rw [List.map_cons, lcL, e1]
    simp only [Option.bind_some, e2]
    cases c : t x with
    | false =>
      obtain ⟨τ3, e3, f3⟩ := lcL_run hw hq (xs := r) (hq x τ2 f2) fun y hy => hx y (List.mem_cons_of_mem _ hy)
      exact ⟨τ3, by simp [e3, List.filter_cons, c], f3⟩
    | true =>
      obtain ⟨τ3, e3, f3⟩ := he c τ2 f2
      obtain ⟨τ4, e4, f4⟩ := lcL_run hw hq (xs := r) (hq x τ3 f3) fun y hy => hx y (List.mem_cons_of_mem _ hy)
      exact ⟨τ4, by simp [e3, e4, List.filter_cons, c], f4⟩
theorem x_lcf (hI : XEs P I (xs.map g)) (hw : ∀ i ∈ own, P[i]? = some none) (hq : ∀ x τ, Fit (tp x) τ → Fit P (wipeM τ own)) (hx : ∀ x ∈ xs, XG P T (g x) (tp x) ∧ XT (tp x) C (t x) ∧ (t x = true → XE (tp x) E (e (f x)))) (hl : ((xs.filter t).map f).length ≤ sizeLine) :
    XE P (lcM I T C E own) (.lst true (((xs.filter t).map f).map e)) := fun τ ft => by
  obtain ⟨τ1, e1, f1⟩ := hI τ ft
  obtain ⟨τ2, e2, f2⟩ := lcL_run hw hq (f1.wipe hw) hx
  exact ⟨τ2, s_lc e1 e2 (by rw [List.length_map]; exact hl), f2⟩
theorem x_lc (hI : XEs P I (xs.map g)) (hw : ∀ i ∈ own, P[i]? = some none) (hq : ∀ x τ, Fit (tp x) τ → Fit P (wipeM τ own)) (hx : ∀ x ∈ xs, XG P T (g x) (tp x) ∧ XE (tp x) E (e (f x))) (hl : xs.length ≤ sizeLine) :
    XE P (lcM I T yesM E own) (.lst true ((xs.map f).map e)) := by
  have e0 : xs.filter (fun _ => true) = xs := List.filter_eq_self.mpr fun _ _ => rfl
  have h := x_lcf (t := fun _ => true) (f := f) (e := e) (C := yesM) hI hw hq (fun x hxm => ⟨(hx x hxm).1, xt_yes, fun _ => (hx x hxm).2⟩) (by rw [e0, List.length_map]; exact hl)
  rw [e0] at h
  exact h
end
/-- slots that a comprehension owns are forgotten -/
theorem fit_own1 {P : Sl} {i : Nat} {v : Val} (hw : P[i]? = some none) : ∀ τ, Fit (P.set i (some v)) τ → Fit P (wipeM τ [i]) := by
  intro τ f
  have key : ∀ {P τ : Sl} {i : Nat}, P[i]? = some none → Fit (P.set i (some v)) τ → Fit P τ := by
    intro P
    induction P with
    | nil => intro τ i h _; simp at h
    | cons p P ih =>
      intro τ i h f
      cases i with
      | zero =>
        simp only [List.getElem?_cons_zero, Option.some.injEq] at h
        subst h
        cases τ with
        | nil => exact f.elim
        | cons o τ => exact f.2
      | succ i =>
        rw [List.set_cons_succ] at f
        cases τ with
        | nil => cases p <;> exact f.elim
        | cons o τ =>
          cases p with
          | none => exact ih (τ := τ) (by simpa using h) f
          | some w => exact ⟨f.1, ih (τ := τ) (by simpa using h) f.2⟩
  exact (key hw f).wipe fun j hj => by rw [List.mem_singleton.mp hj]; exact hw
theorem fit_le {P Q : Sl} {own : List Nat} (hl : Le Q P) (hw : ∀ i ∈ own, P[i]? = some none) : ∀ τ, Fit Q τ → Fit P (wipeM τ own) := fun τ f => (f.le hl).wipe hw
end MV
end

section
set_option maxHeartbeats 4000000
/-! encoders of plain Lean values, and what the operations do with them -/
namespace MV
open PySem
section
variable {α β γ δ ε κ ν : Type}
def e2 (ea : α → Val) (eb : β → Val) (p : α × β) : Val := .tup [ea p.1, eb p.2]
def e3 (ea : α → Val) (eb : β → Val) (ec : γ → Val) (p : α × β × γ) : Val := .tup [ea p.1, eb p.2.1, ec p.2.2]
def e4 (ea : α → Val) (eb : β → Val) (ec : γ → Val) (ed : δ → Val) (p : α × β × γ × δ) : Val := .tup [ea p.1, eb p.2.1, ec p.2.2.1, ed p.2.2.2]
def e5 (ea : α → Val) (eb : β → Val) (ec : γ → Val) (ed : δ → Val) (ee : ε → Val) (p : α × β × γ × δ × ε) : Val := .tup [ea p.1, eb p.2.1, ec p.2.2.1, ed p.2.2.2.1, ee p.2.2.2.2]
def eT (e : α → Val) (xs : List α) : Val := .tup (xs.map e)
def eL (e : α → Val) (xs : List α) : Val := .lst false (xs.map e)
def eO (e : α → Val) (xs : List α) : Val := .lst true (xs.map e)
def eD (ek : κ → Val) (ev : ν → Val) (d : List (κ × ν)) : Val := .dct true true (d.map fun p => ek p.1) (d.map fun p => ev p.2)
def eN (_ : Unit) : Val := .non
def eOp (e : α → Val) : Option α → Val
  | none => .non
  | some a => e a
inductive Sg where
  | a | b | c
  deriving DecidableEq, Inhabited
def eSg : Sg → Val
  | .a => .str "a"
  | .b => .str "b"
  | .c => .str "c"
/-! what never changes -/
abbrev EP (e : α → Val) : Prop := ∀ a, (e a).pure = true
theorem EP.list {e : α → Val} (h : EP e) : ∀ xs : List α, pureL (xs.map e) = true
  | [] => rfl
  | x :: r => by simp only [List.map_cons, pureL, h x, EP.list h r, Bool.and_self]
theorem pL_cons {v : Val} {vs : List Val} (h : v.pure = true) (t : pureL vs = true) : pureL (v :: vs) = true := by simp only [pureL, h, t, Bool.and_self]
theorem ep_i : EP Val.int := fun _ => rfl
theorem ep_b : EP Val.bl := fun _ => rfl
theorem ep_s : EP Val.str := fun _ => rfl
theorem ep_n : EP eN := fun _ => rfl
theorem ep_sg : EP eSg := fun a => by cases a <;> rfl
theorem ep_2 {ea : α → Val} {eb : β → Val} (ha : EP ea) (hb : EP eb) : EP (e2 ea eb) := fun p => pL_cons (ha _) (pL_cons (hb _) rfl)
theorem ep_3 {ea : α → Val} {eb : β → Val} {ec : γ → Val} (ha : EP ea) (hb : EP eb) (hc : EP ec) : EP (e3 ea eb ec) := fun p => pL_cons (ha _) (pL_cons (hb _) (pL_cons (hc _) rfl))
theorem ep_4 {ea : α → Val} {eb : β → Val} {ec : γ → Val} {ed : δ → Val} (ha : EP ea) (hb : EP eb) (hc : EP ec) (hd : EP ed) : EP (e4 ea eb ec ed) := fun p => pL_cons (ha _) (pL_cons (hb _) (pL_cons (hc _) (pL_cons (hd _) rfl)))
theorem ep_5 {ea : α → Val} {eb : β → Val} {ec : γ → Val} {ed : δ → Val} {ee : ε → Val} (ha : EP ea) (hb : EP eb) (hc : EP ec) (hd : EP ed) (he : EP ee) : EP (e5 ea eb ec ed ee) := fun p => pL_cons (ha _) (pL_cons (hb _) (pL_cons (hc _) (pL_cons (hd _) (pL_cons (he _) rfl))))
theorem ep_T {e : α → Val} (h : EP e) : EP (eT e) := fun xs => by simp only [eT, Val.pure]; exact h.list xs
theorem ep_L {e : α → Val} (h : EP e) : EP (eL e) := fun xs => by simp only [eL, Val.pure, h.list xs, Bool.not_false, Bool.and_self]
theorem ep_op {e : α → Val} (h : EP e) : EP (eOp e) := fun o => by cases o with
  | none => rfl
  | some a => exact h a
theorem x_frL {P : Sl} {D : Ev} {e : α → Val} {xs : List α} (h : EP e) (hx : XE P D (eO e xs)) : XE P (frE D) (eL e xs) := x_fr hx (by simp only [eO, eL, Val.frz, frzL_of_pure _ (h.list xs)])
/-! keys -/
structure EK (e : α → Val) (n : Nat) : Prop where
  kd : ∀ a, (e a).kd n = true
  inj : ∀ a b, e a = e b → a = b
  al : ∀ a b, PySem.W.alike (e a).toD (e b).toD = true
mutual
theorem kd_up : ∀ (n : Nat) (x : Val), x.kd n = true → x.kd (n + 1) = true
  | n, .non, _ => by cases n <;> rfl
  | n, .bl _, _ => by cases n <;> rfl
  | n, .int _, _ => by cases n <;> rfl
  | n, .str _, h => by cases n <;> exact h
  | 0, .tup _, h => by simp [Val.kd] at h
  | n + 1, .tup xs, h => by
    simp only [Val.kd] at h ⊢
    exact kdL_up n xs h
  | n, .lst _ _, h => by cases n <;> simp [Val.kd] at h
  | n, .dct _ _ _ _, h => by cases n <;> simp [Val.kd] at h
  | n, .scr _, h => by cases n <;> simp [Val.kd] at h
theorem kdL_up : ∀ (n : Nat) (xs : List Val), kdL n xs = true → kdL (n + 1) xs = true
  | n, [], _ => by cases n <;> rfl
  | n, x :: r, h => by
    simp only [kdL, Bool.and_eq_true] at h ⊢
    exact ⟨kd_up n x h.1, kdL_up n r h.2⟩
end
theorem kd_mono {n m : Nat} {x : Val} (h : x.kd n = true) (hm : n ≤ m) : x.kd m = true := by
  induction hm with
  | refl => exact h
  | step _ ih => exact kd_up _ _ ih
theorem EK.mono {e : α → Val} {n m : Nat} (h : EK e n) (hm : n ≤ m) : EK e m := ⟨fun a => kd_mono (h.kd a) hm, h.inj, h.al⟩
theorem EK.pure {e : α → Val} {n : Nat} (h : EK e n) : EP e := fun a => kd_pure (h.kd a)
theorem ek_i : EK Val.int 0 := ⟨fun _ => rfl, fun _ _ h => Val.int.inj h, fun _ _ => alike_int _ _⟩
theorem ek_b : EK Val.bl 0 := ⟨fun _ => rfl, fun _ _ h => Val.bl.inj h, fun _ _ => alike_bl _ _⟩
theorem ek_sg : EK eSg 0 := ⟨fun a => by cases a <;> decide +kernel, fun a b h => by cases a <;> cases b <;> first | rfl | (exact absurd (Val.str.inj h) (by decide)), fun a b => by cases a <;> cases b <;> exact alike_str _ _⟩
theorem kdL_c {n : Nat} {x : Val} {xs : List Val} (h : x.kd n = true) (t : kdL n xs = true) : kdL n (x :: xs) = true := by simp only [kdL, h, t, Bool.and_self]
theorem ek_2 {ea : α → Val} {eb : β → Val} {n : Nat} (ha : EK ea n) (hb : EK eb n) : EK (e2 ea eb) (n + 1) :=
  ⟨fun p => kdL_c (ha.kd _) (kdL_c (hb.kd _) rfl), fun p q h => by
    simp only [e2, Val.tup.injEq, List.cons.injEq, and_true] at h
    exact Prod.ext (ha.inj _ _ h.1) (hb.inj _ _ h.2), fun p q => alike_tup (alike_cons (ha.al _ _) (alike_cons (hb.al _ _) (alike_nil _)))⟩
theorem ek_3 {ea : α → Val} {eb : β → Val} {ec : γ → Val} {n : Nat} (ha : EK ea n) (hb : EK eb n) (hc : EK ec n) : EK (e3 ea eb ec) (n + 1) :=
  ⟨fun p => kdL_c (ha.kd _) (kdL_c (hb.kd _) (kdL_c (hc.kd _) rfl)), fun p q h => by
    simp only [e3, Val.tup.injEq, List.cons.injEq, and_true] at h
    exact Prod.ext (ha.inj _ _ h.1) (Prod.ext (hb.inj _ _ h.2.1) (hc.inj _ _ h.2.2)), fun p q => alike_tup (alike_cons (ha.al _ _) (alike_cons (hb.al _ _) (alike_cons (hc.al _ _) (alike_nil _))))⟩
theorem ek_4 {ea : α → Val} {eb : β → Val} {ec : γ → Val} {ed : δ → Val} {n : Nat} (ha : EK ea n) (hb : EK eb n) (hc : EK ec n) (hd : EK ed n) : EK (e4 ea eb ec ed) (n + 1) :=
  ⟨fun p => kdL_c (ha.kd _) (kdL_c (hb.kd _) (kdL_c (hc.kd _) (kdL_c (hd.kd _) rfl))), fun p q h => by
    simp only [e4, Val.tup.injEq, List.cons.injEq, and_true] at h
    exact Prod.ext (ha.inj _ _ h.1) (Prod.ext (hb.inj _ _ h.2.1) (Prod.ext (hc.inj _ _ h.2.2.1) (hd.inj _ _ h.2.2.2))), fun p q => alike_tup (alike_cons (ha.al _ _) (alike_cons (hb.al _ _) (alike_cons (hc.al _ _) (alike_cons (hd.al _ _) (alike_nil _)))))⟩
theorem ek_5 {ea : α → Val} {eb : β → Val} {ec : γ → Val} {ed : δ → Val} {ee : ε → Val} {n : Nat} (ha : EK ea n) (hb : EK eb n) (hc : EK ec n) (hd : EK ed n) (he : EK ee n) : EK (e5 ea eb ec ed ee) (n + 1) :=
  ⟨fun p => kdL_c (ha.kd _) (kdL_c (hb.kd _) (kdL_c (hc.kd _) (kdL_c (hd.kd _) (kdL_c (he.kd _) rfl)))), fun p q h => by
    simp only [e5, Val.tup.injEq, List.cons.injEq, and_true] at h
    exact Prod.ext (ha.inj _ _ h.1) (Prod.ext (hb.inj _ _ h.2.1) (Prod.ext (hc.inj _ _ h.2.2.1) (Prod.ext (hd.inj _ _ h.2.2.2.1) (he.inj _ _ h.2.2.2.2)))), fun p q => alike_tup (alike_cons (ha.al _ _) (alike_cons (hb.al _ _) (alike_cons (hc.al _ _) (alike_cons (hd.al _ _) (alike_cons (he.al _ _) (alike_nil _))))))⟩
theorem map_inj {e : α → Val} (h : ∀ a b, e a = e b → a = b) : ∀ {xs ys : List α}, xs.map e = ys.map e → xs = ys
  | [], [], _ => rfl
  | [], _ :: _, z => nomatch z
  | _ :: _, [], z => nomatch z
  | x :: xs, y :: ys, z => by
    simp only [List.map_cons, List.cons.injEq] at z
    rw [h _ _ z.1, map_inj h z.2]
theorem alikes {e : α → Val} (h : ∀ a b, PySem.W.alike (e a).toD (e b).toD = true) : ∀ xs ys : List α, PySem.W.alikeAll (toDL (xs.map e)) (toDL (ys.map e)) = true
  | [], ys => alike_nil _
  | x :: xs, [] => by simp [toDL, PySem.W.alikeAll]
  | x :: xs, y :: ys => alike_cons (h x y) (alikes h xs ys)
theorem kds {e : α → Val} {n : Nat} (h : EK e n) (xs : List α) : kdL n (xs.map e) = true := by
  rw [kdL_all]
  refine List.all_eq_true.mpr fun x hx => ?_
  obtain ⟨a, _, rfl⟩ := List.mem_map.mp hx
  exact h.kd a
theorem ek_T {e : α → Val} {n : Nat} (h : EK e n) : EK (eT e) (n + 1) :=
  ⟨fun xs => by simp only [eT, Val.kd]; exact kds h xs, fun xs ys z => map_inj h.inj (Val.tup.inj z), fun xs ys => alike_tup (alikes h.al xs ys)⟩
theorem EK.nk {e : α → Val} {n : Nat} (h : EK e n) {a b : α} (z : (e a).nkey = (e b).nkey) : a = b := by
  obtain ⟨k, hk, _⟩ := kd_key n (e a) (h.kd a)
  exact h.inj _ _ (key_one _ _ k hk (by rw [← z]; exact hk) (h.al a b))
theorem EK.eqv {e : α → Val} {n : Nat} (h : EK e n) (a b : α) : PyData.eqv (e a).toD (e b).toD = true ↔ a = b := by
  obtain ⟨k, hk, _, _, hl⟩ := kd_key n (e a) (h.kd a)
  constructor
  · intro z
    exact h.nk (hk.trans (key_eqv _ _ k (h.al a b) z hk).symm)
  · rintro rfl
    exact SeqAt.eqv_refl _ hl
theorem eqV_okD {x y : Val} (hx : okD x = true) (hy : okD y = true) : eqV x y = some (.bl (PyData.eqv x.toD y.toD)) := by
  have g : ∀ {x y : Val}, okD x = true → okD y = true → (if (okD x && okD y) = true then some (Val.bl (PyData.eqv x.toD y.toD)) else none) = some (.bl (PyData.eqv x.toD y.toD)) := fun h1 h2 => by rw [h1, h2]; rfl
  cases x <;> cases y <;> first
    | exact g hx hy
    | (simp only [eqV, Val.toD, PyData.eqv]; try rfl)
variable [DecidableEq α]
theorem eq_k {e : α → Val} {n : Nat} (h : EK e n) (hn : n ≤ 60) (a b : α) : eqV (e a) (e b) = some (.bl (decide (a = b))) := by
  rw [eqV_okD (kd_okD (h.kd a) (by omega)) (kd_okD (h.kd b) (by omega))]
  congr 2
  rw [Bool.eq_iff_iff, h.eqv, decide_eq_true_eq]
theorem ne_k {e : α → Val} {n : Nat} (h : EK e n) (hn : n ≤ 60) (a b : α) : neV (e a) (e b) = some (.bl (!decide (a = b))) := by
  unfold neV
  rw [eq_k h hn]
  rfl
theorem okD_lst {n : Nat} {m : Bool} {xs : List Val} (h : kdL n xs = true) (hn : n ≤ 60) : okD (.lst m xs) = true := by
  obtain ⟨_, _, _, h1, h2⟩ := kdL_keys n xs h
  unfold okD SeqAt.shaped
  simp only [Val.toD, PyData.canLay0, PyData.depth, Bool.and_eq_true, decide_eq_true_eq]
  exact ⟨h2, by omega⟩
theorem eqvAll_k {e : α → Val} {n : Nat} (h : EK e n) : ∀ xs ys : List α, PyData.eqvAll (toDL (xs.map e)) (toDL (ys.map e)) = true ↔ xs = ys
  | [], [] => by simp [toDL, PyData.eqvAll]
  | [], _ :: _ => by simp [toDL, PyData.eqvAll]
  | _ :: _, [] => by simp [toDL, PyData.eqvAll]
  | x :: xs, y :: ys => by simp [toDL, PyData.eqvAll, h.eqv, eqvAll_k h xs ys]
theorem eq_l {e : α → Val} {n : Nat} {m m' : Bool} (h : EK e n) (hn : n ≤ 60) (xs ys : List α) : eqV (.lst m (xs.map e)) (.lst m' (ys.map e)) = some (.bl (decide (xs = ys))) := by
  rw [eqV_okD (okD_lst (kds h xs) hn) (okD_lst (kds h ys) hn)]
  congr 2
  rw [Bool.eq_iff_iff, decide_eq_true_eq]
  simp only [Val.toD, PyData.eqv]
  exact eqvAll_k h xs ys
theorem ne_l {e : α → Val} {n : Nat} {m m' : Bool} (h : EK e n) (hn : n ≤ 60) (xs ys : List α) : neV (.lst m (xs.map e)) (.lst m' (ys.map e)) = some (.bl (!decide (xs = ys))) := by
  unfold neV
  rw [eq_l h hn]
  rfl
theorem any_k {e : α → Val} {n : Nat} (h : EK e n) (a : α) : ∀ xs : List α, ((xs.map e).any fun y => PyData.eqv y.toD (e a).toD) = decide (a ∈ xs)
  | [] => by simp
  | x :: r => by
    rw [List.map_cons, List.any_cons, any_k h a r]
    rw [Bool.eq_iff_iff, Bool.or_eq_true, h.eqv, decide_eq_true_eq, decide_eq_true_eq, List.mem_cons]
    exact ⟨fun z => z.imp Eq.symm id, fun z => z.imp Eq.symm id⟩
theorem in_T {e : α → Val} {n : Nat} (h : EK e n) (hn : n ≤ 50) (a : α) (xs : List α) : inV2 (e a) (eT e xs) = some (.bl (decide (a ∈ xs))) := by
  have h1 := kd_okD (h.kd a) (by omega)
  have h2 := kd_okD ((ek_T h).kd xs) (by omega)
  have e0 : inV2 (e a) (eT e xs) = if (okD (e a) && okD (.tup (xs.map e))) = true then some (.bl ((xs.map e).any fun y => PyData.eqv y.toD (e a).toD)) else none := rfl
  rw [e0, h1]
  rw [show okD (.tup (xs.map e)) = true from h2, any_k h]
  rfl
theorem in_l {e : α → Val} {n : Nat} {m : Bool} (h : EK e n) (hn : n ≤ 50) (a : α) (xs : List α) : inV2 (e a) (.lst m (xs.map e)) = some (.bl (decide (a ∈ xs))) := by
  have h1 := kd_okD (h.kd a) (by omega)
  have h2 : okD (.lst m (xs.map e)) = true := okD_lst (kds h xs) (by omega)
  have e0 : inV2 (e a) (.lst m (xs.map e)) = if (okD (e a) && okD (.lst m (xs.map e))) = true then some (.bl ((xs.map e).any fun y => PyData.eqv y.toD (e a).toD)) else none := rfl
  rw [e0, h1, h2, any_k h]
  rfl
theorem notin_T {e : α → Val} {n : Nat} (h : EK e n) (hn : n ≤ 50) (a : α) (xs : List α) : notinV2 (e a) (eT e xs) = some (.bl (!decide (a ∈ xs))) := by
  unfold notinV2
  rw [in_T h hn]
  rfl
theorem notin_l {e : α → Val} {n : Nat} {m : Bool} (h : EK e n) (hn : n ≤ 50) (a : α) (xs : List α) : notinV2 (e a) (.lst m (xs.map e)) = some (.bl (!decide (a ∈ xs))) := by
  unfold notinV2
  rw [in_l h hn]
  rfl
/-! rows: keys that are tuples -/
abbrev ER (e : α → Val) : Prop := ∀ a, (e a).row = true
theorem er_2 {ea : α → Val} {eb : β → Val} {n : Nat} (h : EK (e2 ea eb) n) (hn : n ≤ 8) : ER (e2 ea eb) := fun p => kd_row (kd_mono (h.kd p) hn)
theorem er_3 {ea : α → Val} {eb : β → Val} {ec : γ → Val} {n : Nat} (h : EK (e3 ea eb ec) n) (hn : n ≤ 8) : ER (e3 ea eb ec) := fun p => kd_row (kd_mono (h.kd p) hn)
theorem er_4 {ea : α → Val} {eb : β → Val} {ec : γ → Val} {ed : δ → Val} {n : Nat} (h : EK (e4 ea eb ec ed) n) (hn : n ≤ 8) : ER (e4 ea eb ec ed) := fun p => kd_row (kd_mono (h.kd p) hn)
theorem er_5 {ea : α → Val} {eb : β → Val} {ec : γ → Val} {ed : δ → Val} {ee : ε → Val} {n : Nat} (h : EK (e5 ea eb ec ed ee) n) (hn : n ≤ 8) : ER (e5 ea eb ec ed ee) := fun p => kd_row (kd_mono (h.kd p) hn)
def dedX : List α → List α
  | [] => []
  | x :: r => x :: (dedX r).filter fun y => decide (y ≠ x)
theorem dedX_map {e : α → Val} {n : Nat} (h : EK e n) : ∀ xs : List α, dedV (xs.map e) = (dedX xs).map e
  | [] => rfl
  | x :: r => by
    rw [List.map_cons, dedV, dedX, List.map_cons, dedX_map h r, List.filter_map]
    congr 2
    refine List.filter_congr fun y _ => ?_
    have : (e y).nkey = (e x).nkey ↔ y = x := ⟨fun z => h.nk z, fun z => by rw [z]⟩
    simp only [Function.comp, ne_eq, this]
theorem dedX_mem (x : α) : ∀ xs : List α, x ∈ dedX xs ↔ x ∈ xs
  | [] => by simp [dedX]
  | y :: r => by
    rw [dedX, List.mem_cons, List.mem_filter, dedX_mem x r, List.mem_cons]
    by_cases c : x = y
    · simp [c]
    · simp [c]
theorem dedX_nodup : ∀ xs : List α, (dedX xs).Nodup
  | [] => List.nodup_nil
  | x :: r => by
    rw [dedX]
    refine List.nodup_cons.mpr ⟨fun h => ?_, (dedX_nodup r).filter _⟩
    have := (List.mem_filter.mp h).2
    simp at this
def leK (e : α → Val) (a b : α) : Bool := leB (e a) (e b)
def sortX (e : α → Val) (xs : List α) : List α := xs.mergeSort (leK e)
def setX (e : α → Val) (xs : List α) : List α := sortX e (dedX xs)
theorem sortX_map {e : α → Val} (xs : List α) : (xs.map e).mergeSort leB = (sortX e xs).map e := (PySem.W.sort_maps (r := leK e) (s := leB) e fun a _ b _ => rfl).symm
theorem alikeL_map {e : α → Val} {n : Nat} (h : EK e n) (xs : List α) : alikeL (xs.map e) = true := by
  unfold alikeL
  refine List.all_eq_true.mpr fun x hx => List.all_eq_true.mpr fun y hy => ?_
  obtain ⟨a, _, rfl⟩ := List.mem_map.mp hx
  obtain ⟨b, _, rfl⟩ := List.mem_map.mp hy
  exact h.al a b
theorem rows_map {e : α → Val} (h : ER e) (xs : List α) : rowsOk (xs.map e) = true := List.all_eq_true.mpr fun x hx => by
  obtain ⟨a, _, rfl⟩ := List.mem_map.mp hx
  exact h a
theorem setOk_map {e : α → Val} {n : Nat} (h : EK e n) (hr : ER e) {xs : List α} (hl : (dedX xs).length ≤ 4000) : setOk (xs.map e) = true := by
  unfold setOk
  rw [Bool.or_eq_true]
  right
  rw [Bool.and_eq_true, Bool.and_eq_true, decide_eq_true_eq]
  refine ⟨⟨rows_map hr xs, alikeL_map h xs⟩, ?_⟩
  rw [dedX_map h, List.length_map]
  exact hl
theorem sortset_l {e : α → Val} {n : Nat} {m : Bool} (h : EK e n) (hr : ER e) {xs : List α} (hl : (dedX xs).length ≤ 4000) : sortSetV (.lst m (xs.map e)) = some (eO e (setX e xs)) := by
  rw [sortSet_seq rfl (setOk_map h hr hl), dedX_map h, sortX_map]
  rfl
theorem sortset_T {e : α → Val} {n : Nat} (h : EK e n) (hr : ER e) {xs : List α} (hl : (dedX xs).length ≤ 4000) : sortSetV (eT e xs) = some (eO e (setX e xs)) := by
  rw [show eT e xs = .tup (xs.map e) from rfl, sortSet_seq rfl (setOk_map h hr hl), dedX_map h, sortX_map]
  rfl
theorem sortset_i {m : Bool} {xs : List Int} (hl : xs.length ≤ 4000) : sortSetV (.lst m (xs.map Val.int)) = some (eO Val.int (setX Val.int xs)) := by
  rw [sortSet_seq rfl (setOk_ints hl), dedX_map ek_i, sortX_map]
  rfl
theorem sortset_iT {xs : List Int} (hl : xs.length ≤ 4000) : sortSetV (eT Val.int xs) = some (eO Val.int (setX Val.int xs)) := by
  rw [show eT Val.int xs = .tup (xs.map Val.int) from rfl, sortSet_seq rfl (setOk_ints hl), dedX_map ek_i, sortX_map]
  rfl
/-- what two roads sort is one, where the items are the same -/
theorem sortX_perm {e : α → Val} {n : Nat} (h : EK e n) {xs ys : List α} (p : xs.Perm ys) : sortX e xs = sortX e ys := by
  refine map_inj h.inj ?_
  rw [← sortX_map, ← sortX_map]
  refine sort_perm (p.map e) (fun x hx => ?_) (alikeL_map h xs)
  obtain ⟨a, _, rfl⟩ := List.mem_map.mp hx
  obtain ⟨k, hk, _⟩ := kd_key n (e a) (h.kd a)
  rw [hk]; rfl
theorem sortX_mem {e : α → Val} {xs : List α} {x : α} : x ∈ sortX e xs ↔ x ∈ xs := (List.mergeSort_perm xs (leK e)).mem_iff
theorem sortX_len {e : α → Val} {xs : List α} : (sortX e xs).length = xs.length := List.length_mergeSort xs
theorem setX_mem {e : α → Val} {xs : List α} {x : α} : x ∈ setX e xs ↔ x ∈ xs := by
  unfold setX
  rw [sortX_mem, dedX_mem]
theorem setX_eq {e : α → Val} {n : Nat} (h : EK e n) {xs ys : List α} (hy : ys.Nodup) (hm : ∀ x, x ∈ xs ↔ x ∈ ys) : setX e xs = sortX e ys :=
  sortX_perm h ((List.perm_ext_iff_of_nodup (dedX_nodup xs) hy).mpr fun x => (dedX_mem x xs).trans (hm x))
/-! dicts -/
variable [DecidableEq κ]
def putX (d : List (κ × ν)) (k : κ) (v : ν) : List (κ × ν) := match d with
  | [] => [(k, v)]
  | p :: r => if p.1 = k then (p.1, v) :: r else p :: putX r k v
def lookX (d : List (κ × ν)) (k : κ) : Option ν := match d with
  | [] => none
  | p :: r => if p.1 = k then some p.2 else lookX r k
theorem put_ks {ek : κ → Val} {n : Nat} (h : EK ek n) {k : κ} {nk : NestedKey} (hk : (ek k).nkey = some nk) (v : ν) : ∀ d : List (κ × ν), dputKs nk (ek k) (d.map fun p => ek p.1) = (putX d k v).map fun p => ek p.1
  | [] => rfl
  | p :: r => by
    rw [List.map_cons, dputKs, putX, ← hk]
    by_cases c : p.1 = k
    · rw [if_pos (by rw [c]), if_pos c]; rfl
    · rw [if_neg (fun z => c (h.nk z)), if_neg c, List.map_cons, ← put_ks h hk v r]
theorem put_vs {ek : κ → Val} {ev : ν → Val} {n : Nat} (h : EK ek n) {k : κ} {nk : NestedKey} (hk : (ek k).nkey = some nk) (v : ν) : ∀ d : List (κ × ν), dputVs nk (ev v) (d.map fun p => ek p.1) (d.map fun p => ev p.2) = (putX d k v).map fun p => ev p.2
  | [] => rfl
  | p :: r => by
    rw [List.map_cons, List.map_cons, dputVs, putX, ← hk]
    by_cases c : p.1 = k
    · rw [if_pos (by rw [c]), if_pos c]; rfl
    · rw [if_neg (fun z => c (h.nk z)), if_neg c, List.map_cons, ← put_vs h hk v r]
theorem get_vs {ek : κ → Val} {ev : ν → Val} {n : Nat} (h : EK ek n) {k : κ} {nk : NestedKey} (hk : (ek k).nkey = some nk) : ∀ d : List (κ × ν), dgetV nk (d.map fun p => ek p.1) (d.map fun p => ev p.2) = (lookX d k).map ev
  | [] => rfl
  | p :: r => by
    rw [List.map_cons, List.map_cons, dgetV, lookX, ← hk]
    by_cases c : p.1 = k
    · rw [if_pos (by rw [c]), if_pos c]; rfl
    · rw [if_neg (fun z => c (h.nk z)), if_neg c, ← get_vs h hk r]
theorem has_ks {ek : κ → Val} {n : Nat} (h : EK ek n) {k : κ} {nk : NestedKey} (hk : (ek k).nkey = some nk) : ∀ d : List (κ × ν), hasK nk (d.map fun p => ek p.1) = (lookX d k).isSome
  | [] => rfl
  | p :: r => by
    have ih := has_ks h hk r
    unfold hasK at ih ⊢
    rw [List.map_cons, List.any_cons, ih, lookX, ← hk]
    by_cases c : p.1 = k
    · simp [c]
    · have : ¬ (ek p.1).nkey = (ek k).nkey := fun z => c (h.nk z)
      simp [c, this]
theorem row_nk {x : Val} (h : x.row = true) : ∃ k, x.nkey = some k := let ⟨_, _, k, _, e, _⟩ := Val.row_inv h; ⟨k, e⟩
theorem rows_mapD {ek : κ → Val} (h : ER ek) (d : List (κ × ν)) : rowsOk (d.map fun p => ek p.1) = true := List.all_eq_true.mpr fun x hx => by
  obtain ⟨a, _, rfl⟩ := List.mem_map.mp hx
  exact h _
theorem EP.mapD {ev : ν → Val} (h : EP ev) (d : List (κ × ν)) : pureL (d.map fun p => ev p.2) = true := by
  rw [pureL_all]
  refine List.all_eq_true.mpr fun x hx => ?_
  obtain ⟨a, _, rfl⟩ := List.mem_map.mp hx
  exact h _
theorem xn_dput {P : Sl} {i : Nat} {Dk De : Ev} {ek : κ → Val} {ev : ν → Val} {n : Nat} {d : List (κ × ν)} {k : κ} {v : ν} (h : EK ek n) (hr : ER ek) (hv : EP ev) (hi : P[i]? = some (some (eD ek ev d))) (he : XE P De (ev v)) (hk : XE P Dk (ek k)) (hl : d.length < sizeLine) :
    XO P (dputM i Dk De) (.nx (P.set i (some (eD ek ev (putX d k v))))) := fun τ f => by
  obtain ⟨τ1, e1, f1⟩ := he τ f
  obtain ⟨τ2, e2, f2⟩ := hk τ1 f1
  obtain ⟨nk, hnk⟩ := row_nk (hr k)
  have g1 := f1.get hi
  have g2 := f2.get hi
  refine ⟨_, ?_, f2.set i _⟩
  unfold dputM
  simp only [e1, Option.bind_some, g1, e2, g2, eD]
  rw [if_pos (by simp only [hv v, hv.mapD d, rows_mapD hr d, hr k, List.length_map, hl, decide_true, Bool.and_self]), hnk]
  simp only [Option.bind_some]
  rw [put_ks h hnk v d, put_vs h hnk v d]
theorem get_d {ek : κ → Val} {ev : ν → Val} {n : Nat} [Inhabited ν] {d : List (κ × ν)} {k : κ} (h : EK ek n) (hr : ER ek) (hv : EP ev) (hs : (lookX d k).isSome = true) : dctGet (eD ek ev d) (ek k) = some (ev ((lookX d k).getD default)) := by
  obtain ⟨nk, hnk⟩ := row_nk (hr k)
  have e0 : dctGet (eD ek ev d) (ek k) = if (rowsOk (d.map fun p => ek p.1) && (ek k).row && pureL (d.map fun p => ev p.2)) = true then ((ek k).nkey).bind fun k => dgetV k (d.map fun p => ek p.1) (d.map fun p => ev p.2) else none := rfl
  rw [e0, rows_mapD hr d, hr k, hv.mapD d, hnk]
  simp only [Bool.and_self, if_true, Option.bind_some]
  rw [get_vs h hnk]
  obtain ⟨v, e⟩ := Option.isSome_iff_exists.mp hs
  rw [e]
  rfl
theorem in_d {ek : κ → Val} {ev : ν → Val} {n : Nat} {d : List (κ × ν)} {k : κ} (h : EK ek n) (hr : ER ek) : dctIn (ek k) (eD ek ev d) = some (.bl (lookX d k).isSome) := by
  obtain ⟨nk, hnk⟩ := row_nk (hr k)
  have e0 : dctIn (ek k) (eD ek ev d) = if (rowsOk (d.map fun p => ek p.1) && (ek k).row) = true then ((ek k).nkey).bind fun j => some (.bl (hasK j (d.map fun p => ek p.1))) else none := rfl
  rw [e0, rows_mapD hr d, hr k, hnk]
  simp only [Bool.and_self, if_true, Option.bind_some]
  rw [has_ks h hnk]
theorem notin_d {ek : κ → Val} {ev : ν → Val} {n : Nat} {d : List (κ × ν)} {k : κ} (h : EK ek n) (hr : ER ek) : dctNotIn (ek k) (eD ek ev d) = some (.bl (!(lookX d k).isSome)) := by
  obtain ⟨nk, hnk⟩ := row_nk (hr k)
  have e0 : dctNotIn (ek k) (eD ek ev d) = if (rowsOk (d.map fun p => ek p.1) && (ek k).row) = true then ((ek k).nkey).bind fun j => some (.bl (!hasK j (d.map fun p => ek p.1))) else none := rfl
  rw [e0, rows_mapD hr d, hr k, hnk]
  simp only [Bool.and_self, if_true, Option.bind_some]
  rw [has_ks h hnk]
theorem sortOk_map {e : κ → Val} {n : Nat} (h : EK e n) (hn : n ≤ 8) (hr : ER e) (xs : List κ) : sortOk (xs.map e) = true := by
  unfold sortOk
  rw [Bool.and_eq_true, Bool.and_eq_true, Bool.or_eq_true]
  refine ⟨⟨alikeL_map h xs, List.all_eq_true.mpr fun x hx => ?_⟩, .inl (List.all_eq_true.mpr fun x hx => ?_)⟩
  · obtain ⟨a, _, rfl⟩ := List.mem_map.mp hx
    obtain ⟨_, _, _, h1, h2⟩ := kd_key n (e a) (h.kd a)
    rw [Bool.and_eq_true, decide_eq_true_eq]
    exact ⟨by omega, h2⟩
  · obtain ⟨a, _, rfl⟩ := List.mem_map.mp hx
    obtain ⟨y, r, _, e1, _⟩ := Val.row_inv (hr a)
    rw [e1]
theorem sort_d {ek : κ → Val} {ev : ν → Val} {n : Nat} {d : List (κ × ν)} (h : EK ek n) (hn : n ≤ 8) (hr : ER ek) : sortDctV (eD ek ev d) = some (eO ek (sortX ek (d.map (·.1)))) := by
  have e0 : sortDctV (eD ek ev d) = if (rowsOk (d.map fun p => ek p.1) && sortOk (d.map fun p => ek p.1)) = true then some (.lst true ((d.map fun p => ek p.1).mergeSort leB)) else none := rfl
  have e1 : (d.map fun p => ek p.1) = (d.map (·.1)).map ek := by rw [List.map_map]; rfl
  rw [e0, rows_mapD hr d, e1, sortOk_map h hn hr, sortX_map]
  rfl
theorem putX_keys (d : List (κ × ν)) (k : κ) (v : ν) (j : κ) : j ∈ (putX d k v).map (·.1) ↔ j = k ∨ j ∈ d.map (·.1) := by
  induction d with
  | nil => simp [putX]
  | cons p r ih =>
    unfold putX
    by_cases c : p.1 = k
    · rw [if_pos c, List.map_cons, List.map_cons, List.mem_cons]
      constructor
      · exact fun z => .inr z
      · rintro (z | z)
        · exact .inl (z.trans c.symm)
        · exact z
    · rw [if_neg c, List.map_cons, List.map_cons, List.mem_cons, List.mem_cons, ih]
      constructor
      · rintro (z | z | z)
        · exact .inr (.inl z)
        · exact .inl z
        · exact .inr (.inr z)
      · rintro (z | z | z)
        · exact .inr (.inl z)
        · exact .inl z
        · exact .inr (.inr z)
theorem putX_nodup (k : κ) (v : ν) : ∀ d : List (κ × ν), (d.map (·.1)).Nodup → ((putX d k v).map (·.1)).Nodup
  | [], _ => by simp [putX]
  | p :: r, h => by
    rw [List.map_cons, List.nodup_cons] at h
    unfold putX
    by_cases c : p.1 = k
    · rw [if_pos c, List.map_cons]
      exact List.nodup_cons.mpr h
    · rw [if_neg c, List.map_cons]
      refine List.nodup_cons.mpr ⟨fun z => ?_, putX_nodup k v r h.2⟩
      rcases (putX_keys r k v p.1).mp z with q | q
      · exact c q
      · exact h.1 q
theorem putX_len (k : κ) (v : ν) : ∀ d : List (κ × ν), (putX d k v).length ≤ d.length + 1
  | [] => Nat.le_refl _
  | p :: r => by
    unfold putX
    split
    · exact Nat.le_succ _
    · exact Nat.succ_le_succ (putX_len k v r)
end
end MV
end

section
set_option maxHeartbeats 4000000
/-! more operations on encoded values; while; append; defs -/
namespace MV
open PySem
section
variable {α β κ ν : Type}
/-! items -/
def getI [Inhabited α] (xs : List α) (i : Int) : α := if 0 ≤ i then xs.getD i.toNat default else xs.getD (xs.length - (-i).toNat) default
def InI (xs : List α) (i : Int) : Prop := -(xs.length : Int) ≤ i ∧ i < xs.length
theorem atI_mapI [Inhabited α] {e : α → Val} {xs : List α} {i : Int} (h : InI xs i) : L2.atI (xs.map e) i = some (e (getI xs i)) := by
  obtain ⟨h1, h2⟩ := h
  unfold L2.atI L2.ixN getI
  rw [List.length_map]
  by_cases h0 : 0 ≤ i
  · rw [if_pos h0, if_pos h0, if_pos h2]
    have hi : i.toNat < xs.length := by omega
    simp [List.getElem?_map, List.getElem?_eq_getElem hi, List.getD]
  · rw [if_neg h0, if_neg h0]
    have hi : xs.length - (-i).toNat < xs.length := by omega
    first
      | rw [if_pos (by omega)]
      | skip
    have e1 : (i + (xs.length : Int)).toNat = xs.length - (-i).toNat := by omega
    have e2 : ((xs.length : Int) + i).toNat = xs.length - (-i).toNat := by omega
    simp [e1, e2, List.getElem?_map, List.getElem?_eq_getElem hi, List.getD]
theorem ix_T [Inhabited α] {e : α → Val} {xs : List α} {i : Int} (p : EP e) (h : InI xs i) : idxV (eT e xs) (.int i) = some (e (getI xs i)) := pureO_ok (atI_mapI h) (p _)
theorem ix_l [Inhabited α] {m : Bool} {e : α → Val} {xs : List α} {i : Int} (p : EP e) (h : InI xs i) : idxV (.lst m (xs.map e)) (.int i) = some (e (getI xs i)) := pureO_ok (atI_mapI h) (p _)
theorem getI_mem [Inhabited α] {xs : List α} {i : Int} (h : InI xs i) : getI xs i ∈ xs := by
  obtain ⟨h1, h2⟩ := h
  unfold getI
  by_cases h0 : 0 ≤ i
  · rw [if_pos h0]
    have hi : i.toNat < xs.length := by omega
    simp only [List.getD, List.getElem?_eq_getElem hi, Option.getD_some]
    exact List.getElem_mem hi
  · rw [if_neg h0]
    have hi : xs.length - (-i).toNat < xs.length := by omega
    simp only [List.getD, List.getElem?_eq_getElem hi, Option.getD_some]
    exact List.getElem_mem hi
/-! walks -/
def enumX (k : Nat) : List α → List (Int × α)
  | [] => []
  | x :: r => ((k : Int), x) :: enumX (k + 1) r
theorem enum_map {e : α → Val} : ∀ (k : Nat) (xs : List α), enumF k (xs.map e) = (enumX k xs).map (e2 Val.int e)
  | _, [] => rfl
  | k, x :: r => by rw [List.map_cons, enumF, enumX, List.map_cons, enum_map (k + 1) r]; rfl
theorem zip_map {e : α → Val} {e' : β → Val} : ∀ (xs : List α) (ys : List β), zipF (xs.map e) (ys.map e') = (xs.zip ys).map (e2 e e')
  | [], ys => by cases ys <;> rfl
  | _ :: _, [] => rfl
  | x :: xs, y :: ys => by rw [List.map_cons, List.map_cons, zipF, List.zip_cons_cons, List.map_cons, zip_map xs ys]; rfl
def rngX (lo hi : Int) : List Int := (List.range (hi - lo).toNat).map fun i => lo + (i : Nat)
theorem rng_map (lo hi : Int) : rngL lo hi = (rngX lo hi).map Val.int := by unfold rngL rngX; rw [List.map_map]; rfl
theorem rngX_mem {lo hi i : Int} : i ∈ rngX lo hi ↔ lo ≤ i ∧ i < hi := by
  unfold rngX
  rw [List.mem_map]
  constructor
  · rintro ⟨j, hj, rfl⟩
    have := List.mem_range.mp hj
    omega
  · intro h
    exact ⟨(i - lo).toNat, List.mem_range.mpr (by omega), by omega⟩
theorem rngX_len (lo hi : Int) : (rngX lo hi).length = (hi - lo).toNat := by simp [rngX]
section
variable {P : Sl} {D Db : Ev} {Ds : Evs} {e : α → Val} {e' : β → Val} {xs : List α} {ys : List β} {m : Bool}
theorem xi_T (h : XE P D (eT e xs)) (p : EP e) : XEs P (seqI D) (xs.map e) := xi_seq h rfl (p.list xs)
theorem xi_l (h : XE P D (.lst m (xs.map e))) (p : EP e) : XEs P (seqI D) (xs.map e) := xi_seq h rfl (p.list xs)
theorem xi_eT (h : XE P D (eT e xs)) (p : EP e) : XEs P (enumI D) ((enumX 0 xs).map (e2 Val.int e)) := by rw [← enum_map]; exact xi_enum h rfl (p.list xs)
theorem xi_el (h : XE P D (.lst m (xs.map e))) (p : EP e) : XEs P (enumI D) ((enumX 0 xs).map (e2 Val.int e)) := by rw [← enum_map]; exact xi_enum h rfl (p.list xs)
theorem xi_zT (h : XE P D (eT e xs)) (h' : XE P Db (eT e' ys)) (p : EP e) (p' : EP e') : XEs P (zipI (consM D (consM Db nilM))) ((xs.zip ys).map (e2 e e')) := by
  rw [← zip_map]; exact xi_zipT (xs_cons h (xs_cons h' xs_nil)) (p.list xs) (p'.list ys)
theorem xi_r1 {k : Int} (h : XE P D (.int k)) (hk : inR k = true) : XEs P (rng1I (consM D nilM)) ((rngX 0 k).map Val.int) := by
  rw [← rng_map]; exact xi_rng1 (xs_cons h xs_nil) hk
theorem xi_r2 {k l : Int} (h : XE P D (.int k)) (h' : XE P Db (.int l)) (hk : inR k = true) (hl : inR l = true) : XEs P (rng2I (consM D (consM Db nilM))) ((rngX k l).map Val.int) := by
  rw [← rng_map]; exact xi_rng2 (xs_cons h (xs_cons h' xs_nil)) hk hl
end
/-! numbers -/
theorem add_i (a b : Int) : addV (.int a) (.int b) = some (.int (a + b)) := rfl
theorem sub_i (a b : Int) : subV (.int a) (.int b) = some (.int (a - b)) := rfl
theorem mul_i {a b : Int} (h : mulOk a b = true) : mulV (.int a) (.int b) = some (.int (a * b)) := if_pos h
def divOk (j : Int) : Prop := 0 < j ∧ j.natAbs.log2 < 9000
theorem fdiv_i {a b : Int} (h : divOk b) : fdivV (.int a) (.int b) = some (.int (a / b)) := by
  simp only [fdivV, h.1, h.2, decide_true, Bool.and_self, if_true]
theorem mod_i {a b : Int} (h : 0 < b) : modV (.int a) (.int b) = some (.int (a % b)) := by simp only [modV, h, decide_true, if_true]
theorem neg_i (a : Int) : negV (.int a) = some (.int (-a)) := rfl
theorem lt_i (a b : Int) : ltV (.int a) (.int b) = some (.bl (decide (a < b))) := rfl
theorem le_i (a b : Int) : leV (.int a) (.int b) = some (.bl (decide (a ≤ b))) := rfl
theorem gt_i (a b : Int) : gtV (.int a) (.int b) = some (.bl (decide (b < a))) := rfl
theorem ge_i (a b : Int) : geV (.int a) (.int b) = some (.bl (decide (b ≤ a))) := rfl
theorem eq_i (a b : Int) : eqV (.int a) (.int b) = some (.bl (decide (a = b))) := eqB_int
theorem ne_i (a b : Int) : neV (.int a) (.int b) = some (.bl (!decide (a = b))) := by unfold neV; rw [eq_i]; rfl
theorem min_i (a b : Int) : min2V [.int a, .int b] = some (.int (if b < a then b else a)) := rfl
theorem max_i (a b : Int) : max2V [.int a, .int b] = some (.int (if b > a then b else a)) := rfl
def b2i (b : Bool) : Int := if b then 1 else 0
theorem int_b (b : Bool) : intV [.bl b] = some (.int (b2i b)) := by cases b <;> rfl
theorem int_i (a : Int) : intV [.int a] = some (.int a) := rfl
theorem isnon_op {e : α → Val} (he : ∀ a, isV (e a) .non = some (.bl false)) (o : Option α) : isV (eOp e o) .non = some (.bl o.isNone) := by
  cases o with
  | none => rfl
  | some a => exact he a
theorem isntnon_op {e : α → Val} (he : ∀ a, isV (e a) .non = some (.bl false)) (o : Option α) : isntV (eOp e o) .non = some (.bl o.isSome) := by
  unfold isntV
  rw [isnon_op he]
  cases o <;> rfl
/-! sequences -/
theorem len_T (e : α → Val) (xs : List α) : lenV [eT e xs] = some (.int xs.length) := by
  show some (Val.int ((xs.map e).length : Nat)) = _
  rw [List.length_map]
theorem len_l (e : α → Val) (m : Bool) (xs : List α) : lenV [.lst m (xs.map e)] = some (.int xs.length) := by
  show some (Val.int ((xs.map e).length : Nat)) = _
  rw [List.length_map]
theorem tup_l {e : α → Val} {m : Bool} {xs : List α} (p : EP e) : tupleV [.lst m (xs.map e)] = some (eT e xs) := tupleV_l (p.list xs)
theorem lst_T {e : α → Val} {xs : List α} (p : EP e) : listV [eT e xs] = some (eO e xs) := listV_t (p.list xs)
theorem lst_l {e : α → Val} {m : Bool} {xs : List α} (p : EP e) : listV [.lst m (xs.map e)] = some (eO e xs) := listV_l (p.list xs)
theorem all_l (m : Bool) (bs : List Bool) : allV [.lst m (bs.map Val.bl)] = some (.bl (bs.all id)) := by
  have h := allV_map (m := m) (fun x => match x with | .bl b => b | _ => false) (bs.map Val.bl)
  have e1 : (bs.map Val.bl).map (fun x => Val.bl (match x with | .bl b => b | _ => false)) = bs.map Val.bl := by rw [List.map_map]; rfl
  rw [e1] at h
  rw [h, List.all_map]
  rfl
theorem any_l (m : Bool) (bs : List Bool) : anyV [.lst m (bs.map Val.bl)] = some (.bl (bs.any id)) := by
  have h := anyV_map (m := m) (fun x => match x with | .bl b => b | _ => false) (bs.map Val.bl)
  have e1 : (bs.map Val.bl).map (fun x => Val.bl (match x with | .bl b => b | _ => false)) = bs.map Val.bl := by rw [List.map_map]; rfl
  rw [e1] at h
  rw [h, List.any_map]
  rfl
theorem cat_T {e : α → Val} {xs ys : List α} (p : EP e) (h : xs.length + ys.length ≤ sizeLine) : addV (eT e xs) (eT e ys) = some (eT e (xs ++ ys)) := by
  show (if (pureL (xs.map e) && pureL (ys.map e) && decide ((xs.map e).length + (ys.map e).length ≤ sizeLine)) = true then some (Val.tup (xs.map e ++ ys.map e)) else none) = _
  rw [p.list, p.list, List.length_map, List.length_map, decide_eq_true h, ← List.map_append]
  rfl
theorem cat_l {e : α → Val} {m m' : Bool} {xs ys : List α} (p : EP e) (h : xs.length + ys.length ≤ sizeLine) : addV (.lst m (xs.map e)) (.lst m' (ys.map e)) = some (eO e (xs ++ ys)) := by
  show (if (pureL (xs.map e) && pureL (ys.map e) && decide ((xs.map e).length + (ys.map e).length ≤ sizeLine)) = true then some (Val.lst true (xs.map e ++ ys.map e)) else none) = _
  rw [p.list, p.list, List.length_map, List.length_map, decide_eq_true h, ← List.map_append]
  rfl
def repX (xs : List α) (k : Int) : List α := (List.replicate k.toNat xs).flatten
theorem rep_map (e : α → Val) (xs : List α) (k : Nat) : (List.replicate k (xs.map e)).flatten = ((List.replicate k xs).flatten).map e := by
  rw [List.map_flatten, List.map_replicate]
theorem rep_T {e : α → Val} {xs : List α} {k : Int} (p : EP e) (h1 : 1 ≤ k) (h2 : k ≤ 1000) (h3 : xs.length ≤ 1000) : mulV (eT e xs) (.int k) = some (eT e (repX xs k)) := by
  show (if (pureL (xs.map e) && decide (1 ≤ k) && decide (k ≤ 1000) && decide ((xs.map e).length ≤ 1000)) = true then some (Val.tup (List.replicate k.toNat (xs.map e)).flatten) else none) = _
  rw [p.list, List.length_map, decide_eq_true h1, decide_eq_true h2, decide_eq_true h3, rep_map]
  rfl
theorem rep_l {e : α → Val} {m : Bool} {xs : List α} {k : Int} (p : EP e) (h1 : -(2 ^ 63) ≤ k) (h2 : k < 2 ^ 63) (h3 : xs.length * k.toNat ≤ sizeLine) : mulV (.lst m (xs.map e)) (.int k) = some (eO e (repX xs k)) := by
  show (if (pureL (xs.map e) && decide (-(2 ^ 63) ≤ k) && decide (k < 2 ^ 63) && decide ((xs.map e).length * k.toNat ≤ sizeLine)) = true then some (Val.lst true (List.replicate k.toNat (xs.map e)).flatten) else none) = _
  rw [p.list, List.length_map, decide_eq_true h1, decide_eq_true h2, decide_eq_true h3, rep_map]
  rfl
def cutX (xs : List α) (lo hi : Option Int) : List α := (xs.drop (HT.sIx xs.length 0 lo)).take (HT.sIx xs.length xs.length hi - HT.sIx xs.length 0 lo)
theorem cut_map (e : α → Val) (xs : List α) (lo hi : Option Int) : cutL (xs.map e) lo hi = (cutX xs lo hi).map e := by
  unfold cutL cutX
  rw [List.length_map, List.map_take, List.map_drop]
theorem sl_T {e : α → Val} {xs : List α} {lo hi : Option Int} (p : EP e) : sliceV (eT e xs) lo hi = some (eT e (cutX xs lo hi)) := by
  show (if pureL (xs.map e) = true then some (Val.tup (cutL (xs.map e) lo hi)) else none) = _
  rw [p.list, cut_map]
  rfl
theorem sl_l {e : α → Val} {m : Bool} {xs : List α} {lo hi : Option Int} (p : EP e) : sliceV (.lst m (xs.map e)) lo hi = some (eO e (cutX xs lo hi)) := by
  show (if pureL (xs.map e) = true then some (Val.lst true (cutL (xs.map e) lo hi)) else none) = _
  rw [p.list, cut_map]
  rfl
theorem rev_T {e : α → Val} {xs : List α} (p : EP e) : revV (eT e xs) = some (eT e xs.reverse) := by
  show (if pureL (xs.map e) = true then some (Val.tup (xs.map e).reverse) else none) = _
  rw [p.list, ← List.map_reverse]
  rfl
theorem rev_l {e : α → Val} {m : Bool} {xs : List α} (p : EP e) : revV (.lst m (xs.map e)) = some (eO e xs.reverse) := by
  show (if pureL (xs.map e) = true then some (Val.lst true (xs.map e).reverse) else none) = _
  rw [p.list, ← List.map_reverse]
  rfl
/-- a tuple of written length cut -/
theorem sl_t {xs ys : List Val} {lo hi : Option Int} (p : pureL xs = true) (h : cutL xs lo hi = ys) : sliceV (.tup xs) lo hi = some (.tup ys) := by
  show (if pureL xs = true then some (Val.tup (cutL xs lo hi)) else none) = _
  rw [p, h]
  rfl
/-! append -/
theorem xn_app {P : Sl} {i : Nat} {De : Ev} {e : α → Val} {xs : List α} {x : α} (p : EP e) (hi : P[i]? = some (some (eO e xs))) (he : XE P De (e x)) (hl : xs.length < sizeLine) : XO P (appendM i De) (.nx (P.set i (some (eO e (xs ++ [x]))))) := fun τ f => by
  obtain ⟨τ1, e1, f1⟩ := he τ f
  have g0 := f.get hi
  have g1 := f1.get hi
  refine ⟨_, ?_, f1.set i _⟩
  unfold appendM
  simp only [g0, Option.bind_some, eO, e1, g1]
  rw [if_pos (by simp only [p x, p.list xs, List.length_map, hl, decide_true, Bool.and_self])]
  simp
end
/-! while -/
section
variable {σ : Type}
inductive DWhile (c : σ → Bool) (f : σ → σ) (d : σ → Prop) : σ → Prop
  | stop {s} : d s → c s = false → DWhile c f d s
  | step {s} : d s → c s = true → DWhile c f d (f s) → DWhile c f d s
def whileK (c : σ → Bool) (f : σ → σ) : Nat → σ → Option σ
  | 0, _ => none
  | n + 1, s => if c s = true then whileK c f n (f s) else some s
open Classical in
noncomputable def whileV (c : σ → Bool) (f : σ → σ) (s : σ) : σ := if h : ∃ r, ∃ n, whileK c f n s = some r then choose h else s
theorem whileK_mono {c : σ → Bool} {f : σ → σ} : ∀ {n m : Nat} {s r : σ}, n ≤ m → whileK c f n s = some r → whileK c f m s = some r
  | 0, _, _, _, _, h => by simp [whileK] at h
  | n + 1, 0, _, _, hm, _ => by omega
  | n + 1, m + 1, s, r, hm, h => by
    unfold whileK at h ⊢
    split at h
    · rename_i hc
      rw [if_pos hc]
      exact whileK_mono (by omega) h
    · rename_i hc
      rw [if_neg hc]
      exact h
theorem whileV_of {c : σ → Bool} {f : σ → σ} {n : Nat} {s r : σ} (h : whileK c f n s = some r) : whileV c f s = r := by
  have ex : ∃ r, ∃ n, whileK c f n s = some r := ⟨r, n, h⟩
  unfold whileV
  rw [dif_pos ex]
  obtain ⟨m, hm⟩ := Classical.choose_spec ex
  have e1 := whileK_mono (Nat.le_max_left n m) h
  have e2 := whileK_mono (Nat.le_max_right n m) hm
  exact Option.some.inj (e2.symm.trans e1)
theorem DWhile.ends {c : σ → Bool} {f : σ → σ} {d : σ → Prop} {s : σ} (h : DWhile c f d s) : ∃ n, whileK c f n s = some (whileV c f s) := by
  have key : ∃ n r, whileK c f n s = some r := by
    induction h with
    | stop _ hc => exact ⟨1, _, by simp only [whileK, hc]; rfl⟩
    | step _ hc _ ih =>
      obtain ⟨n, r, e⟩ := ih
      exact ⟨n + 1, r, by simp only [whileK, hc, if_true, e]⟩
  obtain ⟨n, r, e⟩ := key
  exact ⟨n, by rw [whileV_of e, e]⟩
theorem whileV_stop {c : σ → Bool} {f : σ → σ} {s : σ} (hc : c s = false) : whileV c f s = s := whileV_of (n := 1) (by simp only [whileK, hc]; rfl)
theorem DWhile.next {c : σ → Bool} {f : σ → σ} {d : σ → Prop} {s : σ} (h : DWhile c f d (f s)) (hc : c s = true) : whileV c f s = whileV c f (f s) := by
  obtain ⟨n, e⟩ := h.ends
  exact whileV_of (n := n + 1) (by simp only [whileK, hc, if_true, e])
/-- by a measure -/
theorem DWhile.of {c : σ → Bool} {f : σ → σ} {d : σ → Prop} (I : σ → Prop) (m : σ → Nat) (h : ∀ s, I s → d s ∧ (c s = true → I (f s) ∧ m (f s) < m s)) : ∀ {s : σ}, I s → DWhile c f d s ∧ I (whileV c f s) ∧ c (whileV c f s) = false := by
  have key : ∀ n s, m s ≤ n → I s → DWhile c f d s ∧ I (whileV c f s) ∧ c (whileV c f s) = false := by
    intro n
    induction n with
    | zero =>
      intro s hm hi
      obtain ⟨h1, h2⟩ := h s hi
      cases hc : c s with
      | false => exact ⟨.stop h1 hc, by rw [whileV_stop hc]; exact ⟨hi, hc⟩⟩
      | true => have := (h2 hc).2; omega
    | succ n ih =>
      intro s hm hi
      obtain ⟨h1, h2⟩ := h s hi
      cases hc : c s with
      | false => exact ⟨.stop h1 hc, by rw [whileV_stop hc]; exact ⟨hi, hc⟩⟩
      | true =>
        obtain ⟨h3, h4⟩ := h2 hc
        obtain ⟨k1, k2, k3⟩ := ih (f s) (by omega) h3
        exact ⟨.step h1 hc k1, by rw [k1.next hc]; exact ⟨k2, k3⟩⟩
  exact fun {s} hi => key (m s) s (Nat.le_refl _) hi
theorem s_whileF' {T : Tv} {B : Sv} {τ τ1 : Sl} (h : T τ = some (false, τ1)) : whileM T B τ = some (.next, τ1) := by
  rw [whileM_eq, h]
  rfl
theorem s_whileT' {T : Tv} {B : Sv} {τ τ1 τ2 : Sl} {p : Fl × Sl} (h : T τ = some (true, τ1)) (h2 : B τ1 = some (.next, τ2)) (h3 : whileM T B τ2 = some p) : whileM T B τ = some p := by
  rw [whileM_eq, h]
  simp only [Option.bind_some, if_true, h2, h3]
theorem xn_while {P : Sl} {T : Tv} {B : Sv} {st : σ → Sl} {c : σ → Bool} {f : σ → σ} {d : σ → Prop} {s0 : σ} (hl : Le P (st s0)) (hd : DWhile c f d s0) (hc : ∀ s, d s → XT (st s) T (c s)) (hb : ∀ s, d s → c s = true → XO (st s) B (.nx (st (f s)))) : XO P (whileM T B) (.nx (st (whileV c f s0))) := by
  have key : ∀ s, DWhile c f d s → ∀ τ, Fit (st s) τ → ∃ τ', whileM T B τ = some (.next, τ') ∧ Fit (st (whileV c f s)) τ' := by
    intro s hd
    induction hd with
    | stop h1 h2 =>
      intro τ ft
      obtain ⟨τ1, e1, f1⟩ := hc _ h1 τ ft
      rw [h2] at e1
      exact ⟨τ1, s_whileF' e1, by rw [whileV_stop h2]; exact f1⟩
    | step h1 h2 h3 ih =>
      intro τ ft
      obtain ⟨τ1, e1, f1⟩ := hc _ h1 τ ft
      rw [h2] at e1
      obtain ⟨τ2, e2, f2⟩ := hb _ h1 h2 τ1 f1
      obtain ⟨τ3, e3, f3⟩ := ih τ2 f2
      exact ⟨τ3, s_whileT' e1 e2 e3, by rw [h3.next h2]; exact f3⟩
  exact fun τ ft => key s0 hd τ (ft.le hl)
end
/-! defs -/
theorem x_fn {P : Sl} {m : Nat} {B : Sv} {xs : List Val} {v : Val} (hP : xs.map some ++ List.replicate m none = P) (h : XO P B (.ret v)) : fnM m B xs = some v := by
  obtain ⟨τ', e⟩ := h P (Fit.self P)
  subst hP
  exact s_fn e
theorem x_fnN {P Q : Sl} {m : Nat} {B : Sv} {xs : List Val} (hP : xs.map some ++ List.replicate m none = P) (h : XO P B (.nx Q)) : fnM m B xs = some .non := by
  obtain ⟨τ', e, _⟩ := h P (Fit.self P)
  subst hP
  exact s_fnN e
end MV
end

section
set_option maxHeartbeats 4000000
/-! small rules for printed proofs -/
namespace MV
open PySem PySem.Spec PyProof.Rows L2
section
variable {X : Cx} {q : Bool} {n : Nat}
theorem ss_setLcF {i : Nat} {y : Str} {py : Pos} {elt tg iter : Expr} {ifs : List Expr} {scope : Scope} {own : List (Str × Nat)} {own' : List Nat} {pos spos : Pos} {I : Evs} {T : Tg} {C : Tv} {E : Ev} (hc : X.calm = true) (hN : X.N.Nodup) (hni : n ≤ i) (hi : SI q X tg iter I) (ok : BlkOk X.N X.env.scope scope own) (ho : ∀ j ∈ own', j ∈ own.map (·.2))
    (hg : ∀ (s : Shared) (H : Hp) (C : Addr) (cl : List (Str × Addr)) (fp : List Addr), SG own' (X.blk s H scope (compEnvC scope cl C X.env) fp) tg T) (ht : ∀ (s : Shared) (H : Hp) (C' : Addr) (cl : List (Str × Addr)) (fp : List Addr), STs q (X.blk s H scope (compEnvC scope cl C' X.env) fp) ifs C)
    (he : ∀ (s : Shared) (H : Hp) (C : Addr) (cl : List (Str × Addr)) (fp : List Addr), SE q (X.blk s H scope (compEnvC scope cl C X.env) fp) elt E)
    (hy : X.N[i]? = some y := by rfl) (hyl : X.env.scope.names.lookup y = some .local := by rfl)
    (hsw : swapsWith (.ListComp elt [⟨tg, iter, ifs, 0⟩] scope pos) (some (.Name y py)) spos.line X.env = Pure.pure true := by exact sw_true rfl rfl rfl (by decide +kernel)) (hs : ∀ x, foldedSetIterable iter X.env x = Pure.pure x := by intro _; rfl) :
    SS n X (.Assign [.Name y py] (.ListComp elt [⟨tg, iter, ifs, 0⟩] scope pos) spos) (setM i (frE (lcM I T C E (own.map (·.2))))) :=
  psI (ps_setLc hc hN hy hyl hsw hi ok hg ht he hs) fun D σ H ⟨F, τ, L, fl, τe, s, g, ev, post⟩ => by
    obtain ⟨⟨y1, τ1⟩, e1, ev⟩ := bind_eq ev
    obtain ⟨⟨y2, τ2⟩, e2, e1⟩ := bind_eq e1
    cases e1
    cases ev
    refine tLc_ok ho σ H _ ⟨F, τ, L, y2, _, s, g, e2, fun v F1 H1 L1 Lr h1 s1 st1 => ?_⟩
    have st2 := Step.freeze st1.good
    have h2 := h1.frz (F' := fun a => F1 a ∨ a ∈ Lr) (fun _ z => .inl z) fun a ha => .inr ha
    obtain ⟨L2, s2, sb⟩ := (SR.grow (Lr := Lr) s1).put (i := i) h2
    rw [List.append_nil] at sb
    exact post _ _ H1 L2 s2 (((st1.trans st2).andT).sub sb).weak (Keep.set hni)
end
end MV
namespace MV
open PySem
def LetW {α β : Type} (a : α) (f : α → β) : β := f a
def LetC {α : Type} (a : α) (C : α → Prop) : Prop := C a
theorem LetW_eq {α β : Type} (a : α) (f : α → β) : LetW a f = f a := rfl
theorem LetC_eq {α : Type} (a : α) (C : α → Prop) : LetC a C = C a := rfl
section
variable {P Q : Sl} {S R : Sv} {D De : Ev} {Ds : Evs} {T : Tv} {a : Bool} {i : Nat}
/-- a statement that leads to st x for the value x, then the rest -/
theorem xo_let {α β : Type} {F : β → Out} {st : α → Sl} {x : α} {body : α → β} {C : α → Prop} (h : XO P S (.nx (st x))) (hC : LetC x C) (r : ∀ y, C y → XO (st y) R (F (body y))) : XO P (seqM S R) (F (LetW x body)) := xo_seq h (r x hC)
theorem xo_let0 {α β : Type} {F : β → Out} {st : α → Sl} {x : α} {body : α → β} (h : XO P S (.nx (st x))) (r : ∀ y, XO (st y) R (F (body y))) : XO P (seqM S R) (F (LetW x body)) := xo_seq h (r x)
theorem xn_drop {v : Val} (h : XE P D v) : XO P (dropM D) (.nx P) := fun τ f => let ⟨τ1, e1, f1⟩ := h τ f; ⟨τ1, s_drop e1, f1⟩
theorem xn_assert (h : XT P T a) (ha : a = false) : XO P (ifM T failM nextM) (.nx P) := fun τ f => by
  obtain ⟨τ1, e1, f1⟩ := h τ f
  rw [ha] at e1
  exact ⟨τ1, s_ifF e1 s_next, f1⟩
theorem xn_next : XO P nextM (.nx P) := fun τ f => ⟨τ, s_next, f⟩
theorem xn_le (h : XO P S (.nx Q)) {Q' : Sl} (l : Le Q Q') : XO P S (.nx Q') := fun τ f => let ⟨τ1, e1, f1⟩ := h τ f; ⟨τ1, e1, f1.le l⟩
theorem dfor_triv {α σ : Type} {f : σ → α → σ} : ∀ {xs : List α} {s : σ}, DFor xs s f (fun _ _ => True)
  | [], _ => trivial
  | _ :: r, _ => ⟨trivial, dfor_triv (xs := r)⟩
theorem dforR_triv {α ρ σ : Type} {f : σ → α → Fx ρ σ} : ∀ {xs : List α} {s : σ}, DForR xs s f (fun _ _ => True)
  | [], _ => trivial
  | x :: r, s => ⟨trivial, by
    cases f s x with
    | ret v => trivial
    | nx s' => exact dforR_triv (xs := r)⟩
end
section
variable {α β γ δ ε : Type} {ea : α → Val} {eb : β → Val} {ec : γ → Val} {ed : δ → Val} {ee : ε → Val}
theorem ix2_0 {p : α × β} (h : EP ea) : idxV (e2 ea eb p) (.int 0) = some (ea p.1) := pureO_ok rfl (h _)
theorem ix2_1 {p : α × β} (h : EP eb) : idxV (e2 ea eb p) (.int 1) = some (eb p.2) := pureO_ok rfl (h _)
theorem ix3_0 {p : α × β × γ} (h : EP ea) : idxV (e3 ea eb ec p) (.int 0) = some (ea p.1) := pureO_ok rfl (h _)
theorem ix3_1 {p : α × β × γ} (h : EP eb) : idxV (e3 ea eb ec p) (.int 1) = some (eb p.2.1) := pureO_ok rfl (h _)
theorem ix3_2 {p : α × β × γ} (h : EP ec) : idxV (e3 ea eb ec p) (.int 2) = some (ec p.2.2) := pureO_ok rfl (h _)
theorem ix4_0 {p : α × β × γ × δ} (h : EP ea) : idxV (e4 ea eb ec ed p) (.int 0) = some (ea p.1) := pureO_ok rfl (h _)
theorem ix4_1 {p : α × β × γ × δ} (h : EP eb) : idxV (e4 ea eb ec ed p) (.int 1) = some (eb p.2.1) := pureO_ok rfl (h _)
theorem ix4_2 {p : α × β × γ × δ} (h : EP ec) : idxV (e4 ea eb ec ed p) (.int 2) = some (ec p.2.2.1) := pureO_ok rfl (h _)
theorem ix4_3 {p : α × β × γ × δ} (h : EP ed) : idxV (e4 ea eb ec ed p) (.int 3) = some (ed p.2.2.2) := pureO_ok rfl (h _)
theorem ix5_0 {p : α × β × γ × δ × ε} (h : EP ea) : idxV (e5 ea eb ec ed ee p) (.int 0) = some (ea p.1) := pureO_ok rfl (h _)
theorem ix5_1 {p : α × β × γ × δ × ε} (h : EP eb) : idxV (e5 ea eb ec ed ee p) (.int 1) = some (eb p.2.1) := pureO_ok rfl (h _)
theorem ix5_2 {p : α × β × γ × δ × ε} (h : EP ec) : idxV (e5 ea eb ec ed ee p) (.int 2) = some (ec p.2.2.1) := pureO_ok rfl (h _)
theorem ix5_3 {p : α × β × γ × δ × ε} (h : EP ed) : idxV (e5 ea eb ec ed ee p) (.int 3) = some (ed p.2.2.2.1) := pureO_ok rfl (h _)
theorem ix5_4 {p : α × β × γ × δ × ε} (h : EP ee) : idxV (e5 ea eb ec ed ee p) (.int 4) = some (ee p.2.2.2.2) := pureO_ok rfl (h _)
theorem mk_2 {a : α} {b : β} : mkTup [ea a, eb b] = some (e2 ea eb (a, b)) := mkTup_ok (Nat.le_of_ble_eq_true rfl)
theorem mk_3 {a : α} {b : β} {c : γ} : mkTup [ea a, eb b, ec c] = some (e3 ea eb ec (a, b, c)) := mkTup_ok (Nat.le_of_ble_eq_true rfl)
theorem mk_4 {a : α} {b : β} {c : γ} {d : δ} : mkTup [ea a, eb b, ec c, ed d] = some (e4 ea eb ec ed (a, b, c, d)) := mkTup_ok (Nat.le_of_ble_eq_true rfl)
theorem mk_5 {a : α} {b : β} {c : γ} {d : δ} {e : ε} : mkTup [ea a, eb b, ec c, ed d, ee e] = some (e5 ea eb ec ed ee (a, b, c, d, e)) := mkTup_ok (Nat.le_of_ble_eq_true rfl)
theorem mk_T {e : α → Val} (xs : List α) (h : xs.length ≤ 1000) : mkTup (xs.map e) = some (eT e xs) := mkTup_ok (by rw [List.length_map]; exact h)
theorem mk_O {e : α → Val} (xs : List α) (h : xs.length ≤ 1000) : mkLst (xs.map e) = some (eO e xs) := mkLst_ok (by rw [List.length_map]; exact h)
/-- what has no owned list within -/
abbrev EOw (e : α → Val) : Prop := ∀ a, (e a).own = true
theorem eo_i : EOw Val.int := fun _ => rfl
theorem eo_b : EOw Val.bl := fun _ => rfl
theorem eo_n : EOw eN := fun _ => rfl
theorem eo_sg : EOw eSg := fun a => by cases a <;> rfl
theorem oL_cons {v : Val} {vs : List Val} (h : v.own = true) (t : ownL vs = true) : ownL (v :: vs) = true := by simp only [ownL, h, t, Bool.and_self]
theorem EOw.list {e : α → Val} (h : EOw e) : ∀ xs : List α, ownL (xs.map e) = true
  | [] => rfl
  | x :: r => oL_cons (h x) (EOw.list h r)
theorem eo_2 (ha : EOw ea) (hb : EOw eb) : EOw (e2 ea eb) := fun p => oL_cons (ha _) (oL_cons (hb _) rfl)
theorem eo_3 (ha : EOw ea) (hb : EOw eb) (hc : EOw ec) : EOw (e3 ea eb ec) := fun p => oL_cons (ha _) (oL_cons (hb _) (oL_cons (hc _) rfl))
theorem eo_4 (ha : EOw ea) (hb : EOw eb) (hc : EOw ec) (hd : EOw ed) : EOw (e4 ea eb ec ed) := fun p => oL_cons (ha _) (oL_cons (hb _) (oL_cons (hc _) (oL_cons (hd _) rfl)))
theorem eo_5 (ha : EOw ea) (hb : EOw eb) (hc : EOw ec) (hd : EOw ed) (he : EOw ee) : EOw (e5 ea eb ec ed ee) := fun p => oL_cons (ha _) (oL_cons (hb _) (oL_cons (hc _) (oL_cons (hd _) (oL_cons (he _) rfl))))
theorem eo_T {e : α → Val} (h : EOw e) : EOw (eT e) := fun xs => by simp only [eT, Val.own]; exact h.list xs
theorem eo_O {e : α → Val} (h : EOw e) : EOw (eO e) := fun xs => by simp only [eO, Val.own, h.list xs, Bool.and_self]
theorem eo_op {e : α → Val} (h : EOw e) : EOw (eOp e) := fun o => by cases o with
  | none => rfl
  | some a => exact h a
theorem x_callo {P : Sl} {Ds : Evs} {vs ws : List Val} {z : Val} {f : List Val → Option Val} (h : XEs P Ds vs) (hz : frzL vs = ws) (hf : f ws = some z) (p : z.own = true) : XE P (callM f Ds) z := fun τ ft =>
  let ⟨τ1, e1, f1⟩ := h τ ft; ⟨τ1, s_callMo e1 (by rw [hz]; exact hf) p, f1⟩
end
end MV
end

section
set_option maxHeartbeats 4000000
/-! more small rules for printed proofs -/
namespace MV
open PySem
def CondR {ρ σ : Type} (o : Fx ρ σ) (C : σ → Prop) : Prop := match o with
  | .ret _ => True
  | .nx s => C s
theorem xo_seqRC {ρ σ β : Type} {P : Sl} {st : σ → Sl} {F : β → Out} {fr : ρ → Val} {S R : Sv} {o : Fx ρ σ} {r : ρ → β} {n : σ → β} {C : σ → Prop} (h : XO P S (outF fr st o)) (hr : ∀ v, F (r v) = .ret (fr v)) (hC : CondR o C) (h2 : ∀ s, C s → XO (st s) R (F (n s))) : XO P (seqM S R) (F (bindR o r n)) := by
  cases o with
  | ret v =>
    show XO P _ (F (r v))
    rw [hr v]
    exact fun τ f => let ⟨τ1, e1⟩ := h τ f; ⟨τ1, s_seqR e1⟩
  | nx s => exact xo_seq h (h2 s hC)
/-- the slots of a comprehension are not known -/
theorem own_ok {P : Sl} : ∀ {own : List Nat}, (own.all fun i => match P[i]? with | some none => true | _ => false) = true → ∀ i ∈ own, P[i]? = some none
  | [], _, i, hi => nomatch hi
  | j :: own, h, i, hi => by
    rw [List.all_cons, Bool.and_eq_true] at h
    rcases List.mem_cons.mp hi with rfl | hi
    · have h1 := h.1
      split at h1
      · rename_i e; exact e
      · cases h1
    · exact own_ok h.2 i hi
end MV
namespace MV
open PySem
theorem isi_sg (a : Sg) : isiV .tStr (eSg a) = some (.bl true) := by cases a <;> rfl
theorem xi_pr {α : Type} {P : Sl} {D : Ev} {e : α → Val} {xs : List α} {v : Val} (h : XE P D v) (hv : v = .tup (xs.map e)) (p : v.pure = true) : XEs P (seqI D) (xs.map e) := by
  subst hv
  exact xi_seq h rfl p
end MV
namespace MV
theorem x_cg {P : Sl} {v w : Val} (h : v = w) : XE P (cC v) w := by subst h; exact x_c
end MV
end

section
set_option maxHeartbeats 4000000
/-! expressions that change what stands at slots -/
namespace MV
open PySem
def YE (P : Sl) (D : Ev) (v : Val) (Q : Sl) : Prop := ∀ τ, Fit P τ → ∃ τ', D τ = some (v, τ') ∧ Fit Q τ'
def YEs (P : Sl) (D : Evs) (vs : List Val) (Q : Sl) : Prop := ∀ τ, Fit P τ → ∃ τ', D τ = some (vs, τ') ∧ Fit Q τ'
def YT (P : Sl) (T : Tv) (b : Bool) (Q : Sl) : Prop := ∀ τ, Fit P τ → ∃ τ', T τ = some (b, τ') ∧ Fit Q τ'
/-- it returns v, and leaves y at the first slot -/
def ZO (P : Sl) (B : Sv) (v y : Val) : Prop := ∀ τ, Fit P τ → ∃ τ', B τ = some (.ret v, τ') ∧ τ'[0]? = some (some y)
section
variable {P Q R : Sl} {D Da Db : Ev} {Ds : Evs} {A B : Tv} {v w z y : Val} {vs ws : List Val} {a b : Bool} {i j : Nat} {S S1 : Sv} {o : Out}
theorem XE.toY (h : XE P D v) : YE P D v P := h
theorem XEs.toY (h : XEs P Ds vs) : YEs P Ds vs P := h
theorem XT.toY (h : XT P A a) : YT P A a P := h
theorem ys_nil : YEs P nilM [] P := xs_nil
theorem ys_cons (h : YE P D v Q) (t : YEs Q Ds vs R) : YEs P (consM D Ds) (v :: vs) R := fun τ f =>
  let ⟨τ1, e1, f1⟩ := h τ f; let ⟨τ2, e2, f2⟩ := t τ1 f1; ⟨τ2, s_cons e1 e2, f2⟩
theorem y_c1 {g : Val → Option Val} (h : YE P D v Q) (hg : g v = some w) : YE P (c1 g D) w Q := fun τ f =>
  let ⟨τ1, e1, f1⟩ := h τ f; ⟨τ1, s_c1 e1 hg, f1⟩
theorem y_c2 {g : Val → Val → Option Val} (h1 : YE P Da v Q) (h2 : YE Q Db w R) (hg : g v w = some z) : YE P (c2 g Da Db) z R := fun τ f =>
  let ⟨τ1, e1, f1⟩ := h1 τ f; let ⟨τ2, e2, f2⟩ := h2 τ1 f1; ⟨τ2, s_c2 e1 e2 hg, f2⟩
theorem y_cN {g : List Val → Option Val} (h : YEs P Ds vs Q) (hg : g vs = some z) : YE P (cN g Ds) z Q := fun τ f =>
  let ⟨τ1, e1, f1⟩ := h τ f; ⟨τ1, s_cN e1 hg, f1⟩
theorem y_call {f : List Val → Option Val} (h : YEs P Ds vs Q) (p : pureL vs = true) (hf : f vs = some z) : YE P (callM f Ds) z Q := fun τ ft =>
  let ⟨τ1, e1, f1⟩ := h τ ft; ⟨τ1, s_callM e1 p hf, f1⟩
theorem y_callo {f : List Val → Option Val} (h : YEs P Ds vs Q) (hz : frzL vs = ws) (hf : f ws = some z) (p : z.own = true) : YE P (callM f Ds) z Q := fun τ ft =>
  let ⟨τ1, e1, f1⟩ := h τ ft; ⟨τ1, s_callMo e1 (by rw [hz]; exact hf) p, f1⟩
theorem y_callIO {f : List Val → Option (Val × Val)} {y0 y' : Val} (h0 : P[i]? = some (some y0)) (h : YEs P Ds vs Q) (h2 : Q[i]? = some (some y)) (p : pureL vs = true) (hf : f (y :: vs) = some (z, y')) : YE P (callIO f i Ds) z (Q.set i (some y')) := fun τ ft =>
  let ⟨τ1, e1, f1⟩ := h τ ft; ⟨_, s_callIO (ft.get h0) e1 (f1.get h2) p hf, f1.set i y'⟩
/-- a list is read; from then on it stands unowned -/
theorem y_rdF {m : Bool} {xs : List Val} (h : P[i]? = some (some (.lst m xs))) (p : pureL xs = true) : YE P (rdE i) (.lst false xs) (P.set i (some (.lst false xs))) := fun τ f => by
  have g := f.get h
  cases m with
  | true =>
    have e := s_rdEf (x := .lst true xs) g (by simp [Val.pure])
    simp only [Val.frz, frzL_of_pure xs p] at e
    exact ⟨_, e, f.set i _⟩
  | false =>
    have e := s_rdE (x := .lst false xs) g (by simp [Val.pure, p])
    have e2 : τ.set i (some (.lst false xs)) = τ := by
      refine List.ext_getElem? fun j => ?_
      by_cases hj : i = j
      · subst hj
        rw [List.getElem?_set_self (List.getElem?_eq_some_iff.mp g).1, g]
      · rw [List.getElem?_set_ne hj]
    refine ⟨τ, e, ?_⟩
    have := f.set i (.lst false xs)
    rwa [e2] at this
theorem yt_v (h : YE P D (.bl a) Q) : YT P (tst D) a Q := fun τ f => let ⟨τ1, e1, f1⟩ := h τ f; ⟨τ1, s_tst e1, f1⟩
theorem yt_not (h : YT P A a Q) : YT P (MV.notM A) (!a) Q := fun τ f => let ⟨τ1, e1, f1⟩ := h τ f; ⟨τ1, s_not e1, f1⟩
theorem yt_or1 (h : YT P A true Q) : YT P (MV.orM A B) true Q := fun τ f => let ⟨τ1, e1, f1⟩ := h τ f; ⟨τ1, s_or1 e1, f1⟩
theorem yt_or2 (h : YT P A false Q) (h2 : YT Q B b R) : YT P (MV.orM A B) b R := fun τ f =>
  let ⟨τ1, e1, f1⟩ := h τ f; let ⟨τ2, e2, f2⟩ := h2 τ1 f1; ⟨τ2, s_or2 e1 e2, f2⟩
theorem yt_and1 (h : YT P A false Q) : YT P (MV.andM A B) false Q := fun τ f => let ⟨τ1, e1, f1⟩ := h τ f; ⟨τ1, s_and1 e1, f1⟩
theorem yt_and2 (h : YT P A true Q) (h2 : YT Q B b R) : YT P (MV.andM A B) b R := fun τ f =>
  let ⟨τ1, e1, f1⟩ := h τ f; let ⟨τ2, e2, f2⟩ := h2 τ1 f1; ⟨τ2, s_and2 e1 e2, f2⟩
/-! statements -/
theorem yn_set (h : YE P D v Q) : XO P (setM i D) (.nx (Q.set i (some v))) := fun τ f => let ⟨τ1, e1, f1⟩ := h τ f; ⟨_, s_set e1, f1.set i v⟩
theorem yn_asg {G : Tg} (h : YE P D v Q) (g : XG Q G v R) : XO P (asgM G D) (.nx R) := fun τ f => by
  obtain ⟨τ1, e1, f1⟩ := h τ f
  obtain ⟨τ2, e2, f2⟩ := g τ1 f1
  exact ⟨τ2, s_asg e1 e2, f2⟩
theorem yn_par {x y : Val} (h : YEs P Ds [x, y] Q) : XO P (parM i j Ds) (.nx ((Q.set i (some x)).set j (some y))) := fun τ f => by
  obtain ⟨τ1, e1, f1⟩ := h τ f
  exact ⟨_, s_par e1, (f1.set i x).set j y⟩
theorem yn_drop (h : YE P D v Q) : XO P (dropM D) (.nx Q) := fun τ f => let ⟨τ1, e1, f1⟩ := h τ f; ⟨τ1, s_drop e1, f1⟩
theorem yn_ifT (h : YT P A true Q) (h1 : XO Q S o) : XO P (ifM A S S1) o := by
  cases o with
  | ret v =>
    intro τ f
    obtain ⟨τ1, e1, f1⟩ := h τ f
    obtain ⟨τ2, e2⟩ := h1 τ1 f1
    exact ⟨τ2, s_ifT e1 e2⟩
  | nx R =>
    intro τ f
    obtain ⟨τ1, e1, f1⟩ := h τ f
    obtain ⟨τ2, e2, f2⟩ := h1 τ1 f1
    exact ⟨τ2, s_ifT e1 e2, f2⟩
theorem yn_ifF (h : YT P A false Q) (h1 : XO Q S1 o) : XO P (ifM A S S1) o := by
  cases o with
  | ret v =>
    intro τ f
    obtain ⟨τ1, e1, f1⟩ := h τ f
    obtain ⟨τ2, e2⟩ := h1 τ1 f1
    exact ⟨τ2, s_ifF e1 e2⟩
  | nx R =>
    intro τ f
    obtain ⟨τ1, e1, f1⟩ := h τ f
    obtain ⟨τ2, e2, f2⟩ := h1 τ1 f1
    exact ⟨τ2, s_ifF e1 e2, f2⟩
theorem yo_ret (h : YE P D v Q) : XO P (retM D) (.ret v) := fun τ f => let ⟨τ1, e1, _⟩ := h τ f; ⟨τ1, s_ret e1⟩
theorem z_ret (h : YE P D v Q) (h0 : Q[0]? = some (some y)) : ZO P (retM D) v y := fun τ f => let ⟨τ1, e1, f1⟩ := h τ f; ⟨τ1, s_ret e1, f1.get h0⟩
theorem z_seq (h : XO P S (.nx Q)) (r : ZO Q S1 v y) : ZO P (seqM S S1) v y := fun τ f =>
  let ⟨τ1, e1, f1⟩ := h τ f; let ⟨τ2, e2, f2⟩ := r τ1 f1; ⟨τ2, s_seq e1 e2, f2⟩
theorem z_ifT (h : YT P A true Q) (r : ZO Q S v y) : ZO P (seqM (ifM A S nextM) S1) v y := fun τ f =>
  let ⟨τ1, e1, f1⟩ := h τ f; let ⟨τ2, e2, f2⟩ := r τ1 f1; ⟨τ2, s_seqR (s_ifT e1 e2), f2⟩
theorem z_ifF (h : YT P A false Q) (r : ZO Q S1 v y) : ZO P (seqM (ifM A S nextM) S1) v y := fun τ f =>
  let ⟨τ1, e1, f1⟩ := h τ f; let ⟨τ2, e2, f2⟩ := r τ1 f1; ⟨τ2, s_seq (s_ifF e1 s_next) e2, f2⟩
theorem z_fn {m : Nat} {xs : List Val} (hP : xs.map some ++ List.replicate m none = P) (h : ZO P S v y) : fnIO m S xs = some (v, y) := by
  obtain ⟨τ', e, f⟩ := h P (Fit.self P)
  subst hP
  exact s_fnIO e f
theorem yi_rng1 {k : Int} (h : YEs P Ds [.int k] Q) (hk : inR k = true) : YEs P (rng1I Ds) (rngL 0 k) Q := fun τ f =>
  let ⟨τ1, e1, f1⟩ := h τ f; ⟨τ1, s_rng1 e1 hk, f1⟩
theorem yi_seq (h : YE P D v Q) (hs : v.seq? = some vs) (p : pureL vs = true) : YEs P (seqI D) vs Q := fun τ f =>
  let ⟨τ1, e1, f1⟩ := h τ f; ⟨τ1, by rw [s_seqI e1 hs, frzL_of_pure vs p], f1⟩
theorem y_sl {L R' : Pv} {lo hi : Option Int} (h1 : YE P D v Q) (h2 : XP Q L lo) (h3 : XP Q R' hi) (h : sliceV v lo hi = some z) : YE P (cSl D L R') z Q := fun τ f =>
  let ⟨τ1, e1, f1⟩ := h1 τ f; let ⟨τ2, e2, f2⟩ := h2 τ1 f1; let ⟨τ3, e3, f3⟩ := h3 τ2 f2; ⟨τ3, s_sl e1 e2 e3 h, f3⟩
/-- a loop each turn of which goes on, by a statement about the number of the turn and the slots -/
theorem forL_idx {T : Tg} (J : Nat → Sl → Prop) : ∀ (xs : List Val) (k : Nat) (τ : Sl), J k τ → (∀ (i : Nat) (x : Val) (τ : Sl), xs[i]? = some x → J (k + i) τ → ∃ τ1, T x τ = some τ1 ∧ ∃ τ2, S τ1 = some (.next, τ2) ∧ J (k + i + 1) τ2) →
    ∃ τ', forL T S xs τ = some (.next, τ') ∧ J (k + xs.length) τ'
  | [], k, τ, hj, _ => ⟨τ, rfl, hj⟩
  | x :: r, k, τ, hj, h => by
    obtain ⟨τ1, h1, τ2, h2, h3⟩ := h 0 x τ rfl hj
    obtain ⟨τ', e, j'⟩ := forL_idx J r (k + 1) τ2 h3 fun i y τ hy hj => by
      have := h (i + 1) y τ (by simpa using hy) (by rw [show k + (i + 1) = k + 1 + i by omega]; exact hj)
      rw [show k + (i + 1) + 1 = k + 1 + i + 1 by omega] at this
      exact this
    refine ⟨τ', by simp [forL, h1, h2, e], ?_⟩
    rw [List.length_cons, show k + (r.length + 1) = k + 1 + r.length by omega]
    exact j'
theorem s_forI {I : Evs} {T : Tg} {τ τ1 τ2 : Sl} {xs : List Val} (h : I τ = some (xs, τ1)) (h2 : forL T S xs τ1 = some (.next, τ2)) : forM I T S τ = some (.next, τ2) := s_for h h2
end
end MV
end

section
set_option maxHeartbeats 8000000
/-! the defs of law LW: mirrors and derivations (printed by gen.py) -/
namespace LW
open PySem PySem.Spec PyProof.Rows L2 MV
def topS (i : Nat) : Stmt := PySem.Challenge.pw_realpauses_k02_whole_beats_with_fraction.main.body.getD i (.Pass ⟨0, 0, 0, 0⟩)
noncomputable section
def v_SIGNS : Val := (.tup [(.str "a"), (.str "b"), (.str "c")])
def v_FAR : Val := (.int 5)
def v_MOST_BEATS : Val := (.int 30)
def v_NOUGHT : Val := (.tup [(.int 0), (.int 1)])
abbrev s__law_spring : Stmt := topS 36
abbrev N__law_spring : List Str := ["script", "at", "cell", "mixed"]
theorem sc__law_spring : FnScope N__law_spring ["script", "at"] (defScope s__law_spring) := ⟨rfl, rfl, rfl, by decide +kernel, rfl, by decide +kernel, by decide +kernel⟩
def b__law_spring : Sv :=
  (seqM (setM 2 (cC (.int 7)))
  (seqM (ifM (tst (c2 ltV (rdO 1) (cN lenV (consM (rdO 0) nilM)))) (setM 2 (cN absV2 (consM (c2 idxV (rdO 0) (rdO 1)) nilM))) nextM)
  (seqM (setM 3 (c2 modV (cN intV (consM (c2 addV (c2 addV (c2 mulV (rdO 2) (cC (.int 863))) (c2 mulV (cC (.int 524287)) (rdO 1))) (cC (.int 1))) nilM)) (cC (.int 999999999989))))
  (retM (cN mkLst (consM (ifV (tst (c2 geV (rdO 2) (c2 powV (cC (.int 10)) (cC (.int 18))))) (rdE 2) (cC (.int 0))) (consM (rdE 3) nilM)))))))
def m__law_spring : List Val → Option Val := fnM 2 b__law_spring
abbrev s__law_low : Stmt := topS 43
abbrev N__law_low : List Str := ["top", "below", "one", "other"]
theorem sc__law_low : FnScope N__law_low ["top", "below"] (defScope s__law_low) := ⟨rfl, rfl, rfl, by decide +kernel, rfl, by decide +kernel, by decide +kernel⟩
def b__law_low : Sv :=
  (seqM (parM 2 3 (consM (rdE 0) (consM (rdE 1) nilM)))
  (seqM (whileM (tst (c2 neV (rdO 3) (cC (.int 0)))) (parM 2 3 (consM (rdE 3) (consM (c2 modV (rdO 2) (rdO 3)) nilM))))
  (retM (cN mkTup (consM (c2 fdivV (rdO 0) (rdO 2)) (consM (c2 fdivV (rdO 1) (rdO 2)) nilM))))))
def m__law_low : List Val → Option Val := fnM 2 b__law_low
abbrev s__law_plus : Stmt := topS 44
abbrev N__law_plus : List Str := ["one", "other"]
theorem sc__law_plus : FnScope N__law_plus ["one", "other"] (defScope s__law_plus) := ⟨rfl, rfl, rfl, by decide +kernel, rfl, by decide +kernel, by decide +kernel⟩
def b__law_plus : Sv :=
  (retM (callM m__law_low (consM (c2 addV (c2 mulV (c2 idxV (rdO 0) (cC (.int 0))) (c2 idxV (rdO 1) (cC (.int 1)))) (c2 mulV (c2 idxV (rdO 1) (cC (.int 0))) (c2 idxV (rdO 0) (cC (.int 1))))) (consM (c2 mulV (c2 idxV (rdO 0) (cC (.int 1))) (c2 idxV (rdO 1) (cC (.int 1)))) nilM))))
def m__law_plus : List Val → Option Val := fnM 0 b__law_plus
abbrev s__law_kept : Stmt := topS 45
abbrev N__law_kept : List Str := ["value", "bound", "top", "below", "low", "with_low", "high", "with_high"]
theorem sc__law_kept : FnScope N__law_kept ["value", "bound"] (defScope s__law_kept) := ⟨rfl, rfl, rfl, by decide +kernel, rfl, by decide +kernel, by decide +kernel⟩
def b__law_kept : Sv :=
  (seqM (asgM (tupT 2 (consT (nameT 2) (consT (nameT 3) nilT))) (rdE 0))
  (seqM (asgM (tupT 4 (consT (nameT 4) (consT (nameT 5) (consT (nameT 6) (consT (nameT 7) nilT))))) (rdE 1))
  (seqM (ifM (MV.orM (tst (c2 ltV (rdO 2) (c2 mulV (rdO 4) (rdO 3)))) (MV.andM (tst (c2 eqV (rdO 2) (c2 mulV (rdO 4) (rdO 3)))) (MV.notM (tst (rdO 5))))) (retM (cC (.bl false))) nextM)
  (retM (orV (c2 eqV (rdO 6) (cC (.int 5))) (orV (c2 ltV (rdO 2) (c2 mulV (rdO 6) (rdO 3))) (andV (c2 eqV (rdO 2) (c2 mulV (rdO 6) (rdO 3))) (rdE 7))))))))
def m__law_kept : List Val → Option Val := fnM 6 b__law_kept
abbrev s__law_behind : Stmt := topS 46
abbrev N__law_behind : List Str := ["machine", "stands", "beat", "found", "place", "values", "now", "edge", "bad", "rest", "value", "clock"]
theorem sc__law_behind : FnScope N__law_behind ["machine", "stands", "beat"] (defScope s__law_behind) := ⟨rfl, rfl, rfl, by decide +kernel, rfl, by decide +kernel, by decide +kernel⟩
def b__law_behind : Sv :=
  (seqM (setM 3 (cC (.dct true true [] [])))
  (seqM (forM (seqI (rdE 1)) (tupT 2 (consT (nameT 4) (consT (nameT 5) nilT))) (seqM (setM 6 (frE (lcM (seqI (rdE 5)) (nameT 10) yesM (callM m__law_plus (consM (rdO 10) (consM (c2 idxV (rdO 2) (cC (.int 0))) nilM))) [10])))
  (forM (seqI (c2 idxV (rdO 0) (cC (.int 1)))) (nameT 7) (seqM (setM 8 (frE (lcM (rng1I (consM (c2 idxV (rdO 0) (cC (.int 0))) nilM)) (nameT 11) (MV.notM (tst (callM m__law_kept (consM (c2 idxV (rdO 6) (rdO 11)) (consM (c2 idxV (c2 idxV (rdO 7) (cC (.int 2))) (rdO 11)) nilM))))) (rdE 11) [11])))
  (ifM (MV.andM (tst (c2 eqV (c2 idxV (rdO 7) (cC (.int 0))) (rdO 4))) (MV.andM (tst (c2 eqV (c2 idxV (rdO 7) (cC (.int 1))) (c2 idxV (rdO 2) (cC (.int 1))))) (tst (c2 eqV (rdO 8) (cN mkLst nilM))))) (seqM (setM 9 (cN tupleV (consM (lcM (rng1I (consM (c2 idxV (rdO 0) (cC (.int 0))) nilM)) (nameT 11) yesM (ifV (tst (c2 inV2 (rdO 11) (c2 idxV (rdO 7) (cC (.int 3))))) (cN mkTup (consM (cC (.int 0)) (consM (cC (.int 1)) nilM))) (c2 idxV (rdO 6) (rdO 11))) [11]) nilM)))
  (dputM 3 (cN mkTup (consM (c2 idxV (rdO 7) (cC (.int 4))) (consM (rdE 9) nilM))) (cC (.bl true)))) nextM)))))
  (retM (c1 sortDctV (rdO 3)))))
def m__law_behind : List Val → Option Val := fnM 9 b__law_behind
abbrev s__law_run : Stmt := topS 47
abbrev N__law_run : List Str := ["machine", "row", "stands", "beat"]
theorem sc__law_run : FnScope N__law_run ["machine", "row"] (defScope s__law_run) := ⟨rfl, rfl, rfl, by decide +kernel, rfl, by decide +kernel, by decide +kernel⟩
def b__law_run : Sv :=
  (seqM (setM 2 (frE (cN mkLst (consM (cN mkTup (consM (cC (.int 0)) (consM (c2 mulV (cN mkTup (consM (cN mkTup (consM (cC (.int 0)) (consM (cC (.int 1)) nilM))) nilM)) (c2 idxV (rdO 0) (cC (.int 0)))) nilM))) nilM))))
  (seqM (forM (seqI (rdE 1)) (nameT 3) (setM 2 (frE (callM m__law_behind (consM (rdO 0) (consM (rdO 2) (consM (rdO 3) nilM)))))))
  (retM (mvE 2))))
def m__law_run : List Val → Option Val := fnM 2 b__law_run
abbrev s__law_pick : Stmt := topS 37
abbrev N__law_pick : List Str := ["spring", "many", "digit"]
theorem sc__law_pick : FnScope N__law_pick ["spring", "many"] (defScope s__law_pick) := ⟨rfl, rfl, rfl, by decide +kernel, rfl, by decide +kernel, by decide +kernel⟩
def b__law_pick : Sv :=
  (seqM (ifM (tst (c2 gtV (c2 idxV (rdO 0) (cC (.int 0))) (cC (.int 0)))) (seqM (setM 2 (c2 modV (cN intV (consM (c2 idxV (rdO 0) (cC (.int 0))) nilM)) (rdO 1)))
  (seqM (setItemM 0 (cC (.int 0)) (c2 fdivV (c2 idxV (rdO 0) (cC (.int 0))) (rdO 1)))
  (retM (mvE 2)))) nextM)
  (seqM (setItemM 0 (cC (.int 1)) (c2 modV (cN intV (consM (c2 addV (c2 mulV (c2 idxV (rdO 0) (cC (.int 1))) (cC (.int 393555900739))) (cC (.int 8191))) nilM)) (cC (.int 999999999989))))
  (retM (c2 modV (cN intV (consM (c2 fdivV (c2 idxV (rdO 0) (cC (.int 1))) (cC (.int 4093))) nilM)) (rdO 1)))))
def m__law_pick : List Val → Option (Val × Val) := fnIO 1 b__law_pick
abbrev s__law_bound : Stmt := topS 40
abbrev N__law_bound : List Str := ["spring", "kind", "low", "with_low"]
theorem sc__law_bound : FnScope N__law_bound ["spring"] (defScope s__law_bound) := ⟨rfl, rfl, rfl, by decide +kernel, rfl, by decide +kernel, by decide +kernel⟩
def b__law_bound : Sv :=
  (seqM (setM 1 (callIO m__law_pick 0 (consM (cC (.int 8)) nilM)))
  (seqM (parM 2 3 (consM (callIO m__law_pick 0 (consM (cC (.int 4)) nilM)) (consM (c2 eqV (callIO m__law_pick 0 (consM (cC (.int 2)) nilM)) (cC (.int 0))) nilM)))
  (seqM (ifM (tst (c2 ltV (rdO 1) (cC (.int 3)))) (retM (cN mkTup (consM (cC (.int 0)) (consM (cC (.bl true)) (consM (cC (.int 5)) (consM (cC (.bl false)) nilM)))))) nextM)
  (seqM (ifM (tst (c2 eqV (rdO 1) (cC (.int 3)))) (retM (cN mkTup (consM (rdE 2) (consM (cC (.bl true)) (consM (rdE 2) (consM (cC (.bl true)) nilM)))))) nextM)
  (seqM (ifM (tst (c2 eqV (rdO 1) (cC (.int 4)))) (retM (cN mkTup (consM (rdE 2) (consM (rdE 3) (consM (cC (.int 5)) (consM (cC (.bl false)) nilM)))))) nextM)
  (retM (cN mkTup (consM (rdE 2) (consM (rdE 3) (consM (c2 addV (c2 addV (rdO 2) (cC (.int 1))) (callIO m__law_pick 0 (consM (c2 subV (cC (.int 4)) (rdO 2)) nilM))) (consM (c2 eqV (callIO m__law_pick 0 (consM (cC (.int 2)) nilM)) (cC (.int 0))) nilM)))))))))))
def m__law_bound : List Val → Option (Val × Val) := fnIO 3 b__law_bound
abbrev s__law_edge : Stmt := topS 41
abbrev N__law_edge : List Str := ["spring", "clocks", "place", "goal", "sign", "bounds", "clock"]
theorem sc__law_edge : FnScope N__law_edge ["spring", "clocks"] (defScope s__law_edge) := ⟨rfl, rfl, rfl, by decide +kernel, rfl, by decide +kernel, by decide +kernel⟩
def b__law_edge : Sv :=
  (seqM (parM 2 3 (consM (c2 idxV (cN mkLst (consM (cC (.int 0)) (consM (cC (.int 0)) (consM (cC (.int 1)) (consM (cC (.int 2)) nilM))))) (callIO m__law_pick 0 (consM (cC (.int 4)) nilM))) (consM (c2 idxV (cN mkLst (consM (cC (.int 0)) (consM (cC (.int 1)) (consM (cC (.int 1)) (consM (cC (.int 2)) nilM))))) (callIO m__law_pick 0 (consM (cC (.int 4)) nilM))) nilM)))
  (seqM (setM 4 (c2 idxV (cN mkLst (consM (cC (.str "a")) (consM (cC (.str "a")) (consM (cC (.str "b")) (consM (cC (.str "c")) nilM))))) (callIO m__law_pick 0 (consM (cC (.int 4)) nilM))))
  (seqM (setM 5 (cN tupleV (consM (lcM (rng1I (consM (rdO 1) nilM)) (nameT 6) yesM (callIO m__law_bound 0 nilM) [6]) nilM)))
  (retM (cN mkTup (consM (rdE 2) (consM (rdE 4) (consM (rdE 5) (consM (cN tupleV (consM (lcM (rng1I (consM (rdO 1) nilM)) (nameT 6) (tst (c2 eqV (callIO m__law_pick 0 (consM (cC (.int 2)) nilM)) (cC (.int 0)))) (rdE 6) [6]) nilM)) (consM (rdE 3) nilM))))))))))
def m__law_edge : List Val → Option (Val × Val) := fnIO 5 b__law_edge
abbrev s__law_machine : Stmt := topS 42
abbrev N__law_machine : List Str := ["spring", "most", "clocks", "edges", "turn"]
theorem sc__law_machine : FnScope N__law_machine ["spring", "most"] (defScope s__law_machine) := ⟨rfl, rfl, rfl, by decide +kernel, rfl, by decide +kernel, by decide +kernel⟩
def b__law_machine : Sv :=
  (seqM (setM 2 (c2 addV (cC (.int 1)) (callIO m__law_pick 0 (consM (cC (.int 2)) nilM))))
  (seqM (setM 3 (lcM (rng1I (consM (c2 addV (cC (.int 1)) (callIO m__law_pick 0 (consM (rdE 1) nilM))) nilM)) (nameT 4) yesM (callIO m__law_edge 0 (consM (rdE 2) nilM)) [4]))
  (retM (cN mkTup (consM (rdE 2) (consM (cN tupleV (consM (c1 sortSetV (rdO 3)) nilM)) nilM))))))
def m__law_machine : List Val → Option (Val × Val) := fnIO 3 b__law_machine
abbrev s__law_pause : Stmt := topS 49
abbrev N__law_pause : List Str := ["spring", "machine", "stands", "way", "place", "values", "edges", "edge", "clock", "goal", "top", "below"]
theorem sc__law_pause : FnScope N__law_pause ["spring", "machine", "stands"] (defScope s__law_pause) := ⟨rfl, rfl, rfl, by decide +kernel, rfl, by decide +kernel, by decide +kernel⟩
def b__law_pause : Sv :=
  (seqM (setM 3 (callIO m__law_pick 0 (consM (cC (.int 6)) nilM)))
  (seqM (ifM (MV.orM (tst (c2 eqV (rdO 3) (cC (.int 0)))) (tst (c2 eqV (rdO 2) (cN mkLst nilM)))) (retM (callM m__law_low (consM (callIO m__law_pick 0 (consM (cC (.int 12)) nilM)) (consM (c2 addV (cC (.int 1)) (callIO m__law_pick 0 (consM (cC (.int 7)) nilM))) nilM)))) nextM)
  (seqM (asgM (tupT 2 (consT (nameT 4) (consT (nameT 5) nilT))) (c2 idxV (rdE 2) (callIO m__law_pick 0 (consM (cN lenV (consM (rdO 2) nilM)) nilM))))
  (seqM (setM 6 (c2 addV (lcM (seqI (c2 idxV (rdO 1) (cC (.int 1)))) (nameT 7) (tst (c2 eqV (c2 idxV (rdO 7) (cC (.int 0))) (rdO 4))) (rdE 7) [7]) (cN mkLst (consM (c2 idxV (c2 idxV (rdO 1) (cC (.int 1))) (cC (.int 0))) nilM))))
  (seqM (parM 7 8 (consM (c2 idxV (rdE 6) (callIO m__law_pick 0 (consM (cN lenV (consM (rdO 6) nilM)) nilM))) (consM (callIO m__law_pick 0 (consM (c2 idxV (rdO 1) (cC (.int 0))) nilM)) nilM)))
  (seqM (asgM (tupT 2 (consT (nameT 9) (consT (tupT 2 (consT (nameT 10) (consT (nameT 11) nilT))) nilT))) (cN mkTup (consM (c2 modV (c2 idxV (c2 idxV (c2 idxV (rdO 7) (cC (.int 2))) (rdO 8)) (c2 mulV (cC (.int 2)) (callIO m__law_pick 0 (consM (cC (.int 2)) nilM)))) (cC (.int 5))) (consM (c2 idxV (rdO 5) (rdO 8)) nilM))))
  (seqM (ifM (tst (c2 eqV (rdO 3) (cC (.int 1)))) (retM (callM m__law_low (consM (cN max2V (consM (cC (.int 0)) (consM (c2 addV (c2 subV (c2 mulV (c2 mulV (cC (.int 2)) (rdO 9)) (rdO 11)) (c2 mulV (cC (.int 2)) (rdO 10))) (rdO 11)) nilM))) (consM (c2 mulV (cC (.int 2)) (rdO 11)) nilM)))) nextM)
  (seqM (ifM (tst (c2 eqV (rdO 3) (cC (.int 2)))) (retM (callM m__law_low (consM (cN max2V (consM (cC (.int 0)) (consM (c2 subV (c2 subV (c2 mulV (c2 mulV (cC (.int 3)) (rdO 9)) (rdO 11)) (c2 mulV (cC (.int 3)) (rdO 10))) (rdO 11)) nilM))) (consM (c2 mulV (cC (.int 3)) (rdO 11)) nilM)))) nextM)
  (retM (callM m__law_low (consM (cN max2V (consM (cC (.int 0)) (consM (c2 subV (c2 mulV (rdO 9) (rdO 11)) (rdO 10)) nilM))) (consM (rdO 11) nilM))))))))))))
def m__law_pause : List Val → Option (Val × Val) := fnIO 9 b__law_pause
abbrev s__law_kind : Stmt := topS 38
abbrev N__law_kind : List Str := ["value"]
theorem sc__law_kind : FnScope N__law_kind ["value"] (defScope s__law_kind) := ⟨rfl, rfl, rfl, by decide +kernel, rfl, by decide +kernel, by decide +kernel⟩
def b__law_kind : Sv :=
  (seqM (ifM (MV.orM (tst (c2 isV (rdO 0) (cC .non))) (tst (c1 (isiV .tBool) (rdO 0)))) (retM (ifV (tst (c2 isV (rdO 0) (cC .non))) (cC (.int 0)) (cC (.int 1)))) nextM)
  (seqM (ifM (tst (c1 (isiVs [.tList, .tTuple]) (rdO 0))) (retM (ifV (tst (c1 (isiV .tList) (rdO 0))) (cC (.int 2)) (cC (.int 3)))) nextM)
  (retM (ifV (tst (c1 (isiV .tInt) (rdO 0))) (cC (.int 4)) (ifV (tst (c1 (isiV .tStr) (rdO 0))) (cC (.int 5)) (cC (.int 6)))))))
def m__law_kind : List Val → Option Val := fnM 0 b__law_kind
abbrev s__law_twins : Stmt := topS 39
abbrev N__law_twins : List Str := ["one", "other", "a", "b"]
theorem sc__law_twins : FnScope N__law_twins ["one", "other"] (defScope s__law_twins) := ⟨rfl, rfl, rfl, by decide +kernel, rfl, by decide +kernel, by decide +kernel⟩
def b__law_twins (r__law_twins : List Val → Option Val) : Sv :=
  (seqM (ifM (tst (c2 neV (callM m__law_kind (consM (rdO 0) nilM)) (callM m__law_kind (consM (rdO 1) nilM)))) (retM (cC (.bl false))) nextM)
  (seqM (ifM (tst (c2 inV2 (callM m__law_kind (consM (rdO 0) nilM)) (cN mkLst (consM (cC (.int 2)) (consM (cC (.int 3)) nilM))))) (retM (andV (c2 eqV (cN lenV (consM (rdO 0) nilM)) (cN lenV (consM (rdO 1) nilM))) (c2 eqV (lcM (zipI (consM (rdE 0) (consM (rdE 1) nilM))) (tupT 2 (consT (nameT 2) (consT (nameT 3) nilT))) (MV.notM (tst (callM r__law_twins (consM (rdO 2) (consM (rdO 3) nilM))))) (cC (.int 1)) [2, 3]) (cN mkLst nilM)))) nextM)
  (retM (c2 eqV (rdO 0) (rdO 1)))))
def m__law_twins : Nat → List Val → Option Val
  | 0 => fun _ => none
  | n + 1 => fnM 2 (b__law_twins (m__law_twins n))
abbrev s_is_row_of : Stmt := topS 11
abbrev N_is_row_of : List Str := ["value", "many"]
theorem sc_is_row_of : FnScope N_is_row_of ["value", "many"] (defScope s_is_row_of) := ⟨rfl, rfl, rfl, by decide +kernel, rfl, by decide +kernel, by decide +kernel⟩
def b_is_row_of : Sv :=
  (retM (andV (c1 (isiV .tTuple) (rdO 0)) (c2 eqV (cN lenV (consM (rdO 0) nilM)) (rdO 1))))
def m_is_row_of : List Val → Option Val := fnM 0 b_is_row_of
abbrev s_is_within : Stmt := topS 10
abbrev N_is_within : List Str := ["value", "low", "high"]
theorem sc_is_within : FnScope N_is_within ["value", "low", "high"] (defScope s_is_within) := ⟨rfl, rfl, rfl, by decide +kernel, rfl, by decide +kernel, by decide +kernel⟩
def b_is_within : Sv :=
  (retM (andV (c1 (isiV .tInt) (rdO 0)) (andV (notV (c1 (isiV .tBool) (rdO 0))) (chM leV leV (rdO 1) (rdO 0) (rdO 2)))))
def m_is_within : List Val → Option Val := fnM 0 b_is_within
abbrev s_is_sign : Stmt := topS 12
abbrev N_is_sign : List Str := ["value"]
theorem sc_is_sign : FnScope N_is_sign ["value"] (defScope s_is_sign) := ⟨rfl, rfl, rfl, by decide +kernel, rfl, by decide +kernel, by decide +kernel⟩
def b_is_sign : Sv :=
  (retM (andV (c1 (isiV .tStr) (rdO 0)) (c2 inV2 (rdO 0) (cC v_SIGNS))))
def m_is_sign : List Val → Option Val := fnM 0 b_is_sign
abbrev s_is_bound : Stmt := topS 15
abbrev N_is_bound : List Str := ["value"]
theorem sc_is_bound : FnScope N_is_bound ["value"] (defScope s_is_bound) := ⟨rfl, rfl, rfl, by decide +kernel, rfl, by decide +kernel, by decide +kernel⟩
def b_is_bound : Sv :=
  (seqM (ifM (MV.orM (MV.notM (tst (callM m_is_row_of (consM (rdO 0) (consM (cC (.int 4)) nilM))))) (MV.orM (MV.notM (tst (callM m_is_within (consM (c2 idxV (rdO 0) (cC (.int 0))) (consM (cC (.int 0)) (consM (cC (.int 4)) nilM)))))) (MV.notM (tst (callM m_is_within (consM (c2 idxV (rdO 0) (cC (.int 2))) (consM (c2 idxV (rdO 0) (cC (.int 0))) (consM (cC v_FAR) nilM)))))))) (retM (cC (.bl false))) nextM)
  (seqM (ifM (MV.orM (MV.notM (tst (c1 (isiV .tBool) (c2 idxV (rdO 0) (cC (.int 1)))))) (MV.notM (tst (c1 (isiV .tBool) (c2 idxV (rdO 0) (cC (.int 3))))))) (retM (cC (.bl false))) nextM)
  (seqM (ifM (tst (c2 eqV (c2 idxV (rdO 0) (cC (.int 2))) (cC v_FAR))) (retM (notV (c2 idxV (rdO 0) (cC (.int 3))))) nextM)
  (retM (orV (c2 ltV (c2 idxV (rdO 0) (cC (.int 0))) (c2 idxV (rdO 0) (cC (.int 2)))) (andV (c2 idxV (rdO 0) (cC (.int 1))) (c2 idxV (rdO 0) (cC (.int 3)))))))))
def m_is_bound : List Val → Option Val := fnM 0 b_is_bound
abbrev s_is_edge : Stmt := topS 16
abbrev N_is_edge : List Str := ["clocks", "value", "bound", "clock"]
theorem sc_is_edge : FnScope N_is_edge ["clocks", "value"] (defScope s_is_edge) := ⟨rfl, rfl, rfl, by decide +kernel, rfl, by decide +kernel, by decide +kernel⟩
def b_is_edge : Sv :=
  (seqM (ifM (MV.orM (MV.notM (tst (callM m_is_row_of (consM (rdO 1) (consM (cC (.int 5)) nilM))))) (MV.orM (MV.notM (tst (callM m_is_within (consM (c2 idxV (rdO 1) (cC (.int 0))) (consM (cC (.int 0)) (consM (cC (.int 3)) nilM)))))) (MV.notM (tst (callM m_is_sign (consM (c2 idxV (rdO 1) (cC (.int 1))) nilM)))))) (retM (cC (.bl false))) nextM)
  (seqM (ifM (MV.orM (MV.notM (tst (callM m_is_row_of (consM (c2 idxV (rdO 1) (cC (.int 2))) (consM (rdO 0) nilM))))) (MV.notM (tst (cN allV (consM (lcM (seqI (c2 idxV (rdO 1) (cC (.int 2)))) (nameT 2) yesM (callM m_is_bound (consM (rdO 2) nilM)) [2]) nilM))))) (retM (cC (.bl false))) nextM)
  (seqM (ifM (MV.orM (MV.notM (tst (c1 (isiV .tTuple) (c2 idxV (rdO 1) (cC (.int 3)))))) (MV.notM (tst (cN allV (consM (lcM (seqI (c2 idxV (rdO 1) (cC (.int 3)))) (nameT 3) yesM (callM m_is_within (consM (rdO 3) (consM (cC (.int 0)) (consM (c2 subV (rdO 0) (cC (.int 1))) nilM)))) [3]) nilM))))) (retM (cC (.bl false))) nextM)
  (retM (andV (c2 eqV (cN listV (consM (c2 idxV (rdO 1) (cC (.int 3))) nilM)) (c1 sortSetV (c2 idxV (rdO 1) (cC (.int 3))))) (callM m_is_within (consM (c2 idxV (rdO 1) (cC (.int 4))) (consM (cC (.int 0)) (consM (cC (.int 3)) nilM)))))))))
def m_is_edge : List Val → Option Val := fnM 2 b_is_edge
abbrev s_is_machine : Stmt := topS 17
abbrev N_is_machine : List Str := ["value", "edge"]
theorem sc_is_machine : FnScope N_is_machine ["value"] (defScope s_is_machine) := ⟨rfl, rfl, rfl, by decide +kernel, rfl, by decide +kernel, by decide +kernel⟩
def b_is_machine : Sv :=
  (seqM (ifM (MV.orM (MV.notM (tst (callM m_is_row_of (consM (rdO 0) (consM (cC (.int 2)) nilM))))) (MV.orM (MV.notM (tst (callM m_is_within (consM (c2 idxV (rdO 0) (cC (.int 0))) (consM (cC (.int 1)) (consM (cC (.int 2)) nilM)))))) (MV.notM (tst (c1 (isiV .tTuple) (c2 idxV (rdO 0) (cC (.int 1)))))))) (retM (cC (.bl false))) nextM)
  (seqM (ifM (MV.orM (MV.notM (tst (chM leV leV (cC (.int 1)) (cN lenV (consM (c2 idxV (rdO 0) (cC (.int 1))) nilM)) (cC (.int 6))))) (MV.notM (tst (cN allV (consM (lcM (seqI (c2 idxV (rdO 0) (cC (.int 1)))) (nameT 1) yesM (callM m_is_edge (consM (c2 idxV (rdO 0) (cC (.int 0))) (consM (rdO 1) nilM))) [1]) nilM))))) (retM (cC (.bl false))) nextM)
  (retM (c2 eqV (cN listV (consM (c2 idxV (rdO 0) (cC (.int 1))) nilM)) (c1 sortSetV (c2 idxV (rdO 0) (cC (.int 1))))))))
def m_is_machine : List Val → Option Val := fnM 1 b_is_machine
abbrev s_look_at_machine : Stmt := topS 20
abbrev N_look_at_machine : List Str := ["machine"]
theorem sc_look_at_machine : FnScope N_look_at_machine ["machine"] (defScope s_look_at_machine) := ⟨rfl, rfl, rfl, by decide +kernel, rfl, by decide +kernel, by decide +kernel⟩
def b_look_at_machine : Sv :=
  (ifM (MV.notM (tst (callM m_is_machine (consM (rdO 0) nilM)))) failM nextM)
def m_look_at_machine : List Val → Option Val := fnM 0 b_look_at_machine
abbrev s_common : Stmt := topS 13
abbrev N_common : List Str := ["one", "other"]
theorem sc_common : FnScope N_common ["one", "other"] (defScope s_common) := ⟨rfl, rfl, rfl, by decide +kernel, rfl, by decide +kernel, by decide +kernel⟩
def b_common : Sv :=
  (seqM (whileM (tst (c2 neV (rdO 1) (cC (.int 0)))) (parM 0 1 (consM (rdE 1) (consM (c2 modV (rdO 0) (rdO 1)) nilM))))
  (retM (mvE 0)))
def m_common : List Val → Option Val := fnM 0 b_common
abbrev s_is_fraction : Stmt := topS 14
abbrev N_is_fraction : List Str := ["value", "one"]
theorem sc_is_fraction : FnScope N_is_fraction ["value"] (defScope s_is_fraction) := ⟨rfl, rfl, rfl, by decide +kernel, rfl, by decide +kernel, by decide +kernel⟩
def b_is_fraction : Sv :=
  (seqM (ifM (MV.orM (MV.notM (tst (callM m_is_row_of (consM (rdO 0) (consM (cC (.int 2)) nilM))))) (MV.notM (tst (cN allV (consM (lcM (seqI (rdE 0)) (nameT 1) yesM (andV (c1 (isiV .tInt) (rdO 1)) (notV (c1 (isiV .tBool) (rdO 1)))) [1]) nilM))))) (retM (cC (.bl false))) nextM)
  (retM (andV (c2 geV (c2 idxV (rdO 0) (cC (.int 0))) (cC (.int 0))) (andV (c2 geV (c2 idxV (rdO 0) (cC (.int 1))) (cC (.int 1))) (c2 eqV (callM m_common (consM (c2 idxV (rdO 0) (cC (.int 0))) (consM (c2 idxV (rdO 0) (cC (.int 1))) nilM))) (cC (.int 1)))))))
def m_is_fraction : List Val → Option Val := fnM 1 b_is_fraction
abbrev s_is_beat : Stmt := topS 18
abbrev N_is_beat : List Str := ["value"]
theorem sc_is_beat : FnScope N_is_beat ["value"] (defScope s_is_beat) := ⟨rfl, rfl, rfl, by decide +kernel, rfl, by decide +kernel, by decide +kernel⟩
def b_is_beat : Sv :=
  (retM (andV (callM m_is_row_of (consM (rdO 0) (consM (cC (.int 2)) nilM))) (andV (callM m_is_fraction (consM (c2 idxV (rdO 0) (cC (.int 0))) nilM)) (callM m_is_sign (consM (c2 idxV (rdO 0) (cC (.int 1))) nilM)))))
def m_is_beat : List Val → Option Val := fnM 0 b_is_beat
abbrev s_is_row : Stmt := topS 19
abbrev N_is_row : List Str := ["value", "beat"]
theorem sc_is_row : FnScope N_is_row ["value"] (defScope s_is_row) := ⟨rfl, rfl, rfl, by decide +kernel, rfl, by decide +kernel, by decide +kernel⟩
def b_is_row : Sv :=
  (retM (andV (c1 (isiV .tTuple) (rdO 0)) (andV (c2 leV (cN lenV (consM (rdO 0) nilM)) (cC v_MOST_BEATS)) (cN allV (consM (lcM (seqI (rdE 0)) (nameT 1) yesM (callM m_is_beat (consM (rdO 1) nilM)) [1]) nilM)))))
def m_is_row : List Val → Option Val := fnM 1 b_is_row
abbrev s_look_at_row : Stmt := topS 21
abbrev N_look_at_row : List Str := ["row"]
theorem sc_look_at_row : FnScope N_look_at_row ["row"] (defScope s_look_at_row) := ⟨rfl, rfl, rfl, by decide +kernel, rfl, by decide +kernel, by decide +kernel⟩
def b_look_at_row : Sv :=
  (ifM (MV.notM (tst (callM m_is_row (consM (rdO 0) nilM)))) failM nextM)
def m_look_at_row : List Val → Option Val := fnM 0 b_look_at_row
abbrev s_lowest : Stmt := topS 25
abbrev N_lowest : List Str := ["top", "below", "some"]
theorem sc_lowest : FnScope N_lowest ["top", "below"] (defScope s_lowest) := ⟨rfl, rfl, rfl, by decide +kernel, rfl, by decide +kernel, by decide +kernel⟩
def b_lowest : Sv :=
  (seqM (setM 2 (callM m_common (consM (rdO 0) (consM (rdO 1) nilM))))
  (retM (cN mkTup (consM (c2 fdivV (rdO 0) (rdO 2)) (consM (c2 fdivV (rdO 1) (rdO 2)) nilM)))))
def m_lowest : List Val → Option Val := fnM 1 b_lowest
abbrev s_plus : Stmt := topS 26
abbrev N_plus : List Str := ["one", "other"]
theorem sc_plus : FnScope N_plus ["one", "other"] (defScope s_plus) := ⟨rfl, rfl, rfl, by decide +kernel, rfl, by decide +kernel, by decide +kernel⟩
def b_plus : Sv :=
  (retM (callM m_lowest (consM (c2 addV (c2 mulV (c2 idxV (rdO 0) (cC (.int 0))) (c2 idxV (rdO 1) (cC (.int 1)))) (c2 mulV (c2 idxV (rdO 1) (cC (.int 0))) (c2 idxV (rdO 0) (cC (.int 1))))) (consM (c2 mulV (c2 idxV (rdO 0) (cC (.int 1))) (c2 idxV (rdO 1) (cC (.int 1)))) nilM))))
def m_plus : List Val → Option Val := fnM 0 b_plus
abbrev s_keeps : Stmt := topS 27
abbrev N_keeps : List Str := ["value", "bound", "low", "with_low", "high", "with_high", "above", "below"]
theorem sc_keeps : FnScope N_keeps ["value", "bound"] (defScope s_keeps) := ⟨rfl, rfl, rfl, by decide +kernel, rfl, by decide +kernel, by decide +kernel⟩
def b_keeps : Sv :=
  (seqM (asgM (tupT 4 (consT (nameT 2) (consT (nameT 3) (consT (nameT 4) (consT (nameT 5) nilT))))) (rdE 1))
  (seqM (parM 6 7 (consM (c2 subV (c2 idxV (rdO 0) (cC (.int 0))) (c2 mulV (rdO 2) (c2 idxV (rdO 0) (cC (.int 1))))) (consM (c2 subV (c2 mulV (rdO 4) (c2 idxV (rdO 0) (cC (.int 1)))) (c2 idxV (rdO 0) (cC (.int 0)))) nilM)))
  (seqM (ifM (MV.orM (tst (c2 ltV (rdO 6) (cC (.int 0)))) (MV.andM (tst (c2 eqV (rdO 6) (cC (.int 0)))) (MV.notM (tst (rdO 3))))) (retM (cC (.bl false))) nextM)
  (retM (orV (c2 eqV (rdO 4) (cC v_FAR)) (orV (c2 gtV (rdO 7) (cC (.int 0))) (andV (c2 eqV (rdO 7) (cC (.int 0))) (rdE 5))))))))
def m_keeps : List Val → Option Val := fnM 6 b_keeps
abbrev s_behind : Stmt := topS 29
abbrev N_behind : List Str := ["machine", "stands", "beat", "pause", "sign", "found", "place", "values", "edge", "rest", "value", "clock", "bound"]
theorem sc_behind : FnScope N_behind ["machine", "stands", "beat"] (defScope s_behind) := ⟨rfl, rfl, rfl, by decide +kernel, rfl, by decide +kernel, by decide +kernel⟩
def b_behind : Sv :=
  (seqM (asgM (tupT 2 (consT (nameT 3) (consT (nameT 4) nilT))) (rdE 2))
  (seqM (setM 5 (cN mkLst nilM))
  (seqM (forM (seqI (rdE 1)) (tupT 2 (consT (nameT 6) (consT (nameT 7) nilT))) (seqM (setM 7 (cN tupleV (consM (lcM (seqI (rdE 7)) (nameT 10) yesM (callM m_plus (consM (rdO 10) (consM (rdO 3) nilM))) [10]) nilM)))
  (forM (seqI (c2 idxV (rdO 0) (cC (.int 1)))) (nameT 8) (ifM (MV.andM (tst (c2 eqV (cSl (rdO 8) partN (partS (cC (.int 2)))) (cN mkTup (consM (rdE 6) (consM (rdE 4) nilM))))) (tst (cN allV (consM (lcM (zipI (consM (rdE 7) (consM (c2 idxV (rdO 8) (cC (.int 2))) nilM))) (tupT 2 (consT (nameT 10) (consT (nameT 12) nilT))) yesM (callM m_keeps (consM (rdO 10) (consM (rdO 12) nilM))) [10, 12]) nilM)))) (seqM (setM 9 (frE (lcM (enumI (rdE 7)) (tupT 2 (consT (nameT 11) (consT (nameT 10) nilT))) yesM (ifV (tst (c2 inV2 (rdO 11) (c2 idxV (rdO 8) (cC (.int 3))))) (cC v_NOUGHT) (rdE 10)) [11, 10])))
  (appendM 5 (cN mkTup (consM (c2 idxV (rdO 8) (cC (.int 4))) (consM (cN tupleV (consM (rdO 9) nilM)) nilM))))) nextM))))
  (retM (c1 sortSetV (rdO 5))))))
def m_behind : List Val → Option Val := fnM 10 b_behind
abbrev s_stands_by : Stmt := topS 30
abbrev N_stands_by : List Str := ["machine", "stands", "row", "beat"]
theorem sc_stands_by : FnScope N_stands_by ["machine", "stands", "row"] (defScope s_stands_by) := ⟨rfl, rfl, rfl, by decide +kernel, rfl, by decide +kernel, by decide +kernel⟩
def b_stands_by : Sv :=
  (seqM (forM (seqI (rdE 2)) (nameT 3) (setM 1 (frE (callM m_behind (consM (rdO 0) (consM (rdO 1) (consM (rdO 3) nilM)))))))
  (retM (mvE 1)))
def m_stands_by : List Val → Option Val := fnM 1 b_stands_by
abbrev s_begin_of : Stmt := topS 28
abbrev N_begin_of : List Str := ["machine"]
theorem sc_begin_of : FnScope N_begin_of ["machine"] (defScope s_begin_of) := ⟨rfl, rfl, rfl, by decide +kernel, rfl, by decide +kernel, by decide +kernel⟩
def b_begin_of : Sv :=
  (retM (cN mkTup (consM (cC (.int 0)) (consM (c2 mulV (cN mkTup (consM (cC v_NOUGHT) nilM)) (c2 idxV (rdO 0) (cC (.int 0)))) nilM))))
def m_begin_of : List Val → Option Val := fnM 0 b_begin_of
abbrev s_stands_behind : Stmt := topS 33
abbrev N_stands_behind : List Str := ["machine", "row"]
theorem sc_stands_behind : FnScope N_stands_behind ["machine", "row"] (defScope s_stands_behind) := ⟨rfl, rfl, rfl, by decide +kernel, rfl, by decide +kernel, by decide +kernel⟩
def b_stands_behind : Sv :=
  (seqM (dropM (callM m_look_at_machine (consM (rdO 0) nilM)))
  (seqM (dropM (callM m_look_at_row (consM (rdO 1) nilM)))
  (retM (callM m_stands_by (consM (rdO 0) (consM (frE (cN mkLst (consM (callM m_begin_of (consM (rdO 0) nilM)) nilM))) (consM (rdO 1) nilM)))))))
def m_stands_behind : List Val → Option Val := fnM 0 b_stands_behind
abbrev s_moment_of : Stmt := topS 31
abbrev N_moment_of : List Str := ["row", "found", "pause", "sign"]
theorem sc_moment_of : FnScope N_moment_of ["row"] (defScope s_moment_of) := ⟨rfl, rfl, rfl, by decide +kernel, rfl, by decide +kernel, by decide +kernel⟩
def b_moment_of : Sv :=
  (seqM (setM 1 (cC v_NOUGHT))
  (seqM (forM (seqI (rdE 0)) (tupT 2 (consT (nameT 2) (consT (nameT 3) nilT))) (setM 1 (callM m_plus (consM (rdO 1) (consM (rdO 2) nilM)))))
  (retM (mvE 1))))
def m_moment_of : List Val → Option Val := fnM 3 b_moment_of
abbrev s_moment : Stmt := topS 34
abbrev N_moment : List Str := ["row"]
theorem sc_moment : FnScope N_moment ["row"] (defScope s_moment) := ⟨rfl, rfl, rfl, by decide +kernel, rfl, by decide +kernel, by decide +kernel⟩
def b_moment : Sv :=
  (seqM (dropM (callM m_look_at_row (consM (rdO 0) nilM)))
  (retM (callM m_moment_of (consM (rdO 0) nilM))))
def m_moment : List Val → Option Val := fnM 0 b_moment
abbrev s__law_total : Stmt := topS 48
abbrev N__law_total : List Str := ["row", "found", "pause", "sign"]
theorem sc__law_total : FnScope N__law_total ["row"] (defScope s__law_total) := ⟨rfl, rfl, rfl, by decide +kernel, rfl, by decide +kernel, by decide +kernel⟩
def b__law_total : Sv :=
  (seqM (setM 1 (cN mkTup (consM (cC (.int 0)) (consM (cC (.int 1)) nilM))))
  (seqM (forM (seqI (rdE 0)) (tupT 2 (consT (nameT 2) (consT (nameT 3) nilT))) (setM 1 (callM m__law_plus (consM (rdO 1) (consM (rdO 2) nilM)))))
  (retM (mvE 1))))
def m__law_total : List Val → Option Val := fnM 3 b__law_total
abbrev s_look_at_stand : Stmt := topS 22
abbrev N_look_at_stand : List Str := ["machine", "stand", "good", "one"]
theorem sc_look_at_stand : FnScope N_look_at_stand ["machine", "stand"] (defScope s_look_at_stand) := ⟨rfl, rfl, rfl, by decide +kernel, rfl, by decide +kernel, by decide +kernel⟩
def b_look_at_stand : Sv :=
  (seqM (setM 2 (andV (callM m_is_row_of (consM (rdO 1) (consM (cC (.int 2)) nilM))) (andV (callM m_is_within (consM (c2 idxV (rdO 1) (cC (.int 0))) (consM (cC (.int 0)) (consM (cC (.int 3)) nilM)))) (callM m_is_row_of (consM (c2 idxV (rdO 1) (cC (.int 1))) (consM (c2 idxV (rdO 0) (cC (.int 0))) nilM))))))
  (ifM (MV.orM (MV.notM (tst (rdO 2))) (MV.notM (tst (cN allV (consM (lcM (seqI (c2 idxV (rdO 1) (cC (.int 1)))) (nameT 3) yesM (callM m_is_fraction (consM (rdO 3) nilM)) [3]) nilM))))) failM nextM))
def m_look_at_stand : List Val → Option Val := fnM 2 b_look_at_stand
abbrev s_after : Stmt := topS 32
abbrev N_after : List Str := ["machine", "stand", "beat"]
theorem sc_after : FnScope N_after ["machine", "stand", "beat"] (defScope s_after) := ⟨rfl, rfl, rfl, by decide +kernel, rfl, by decide +kernel, by decide +kernel⟩
def b_after : Sv :=
  (seqM (dropM (callM m_look_at_machine (consM (rdO 0) nilM)))
  (seqM (dropM (callM m_look_at_stand (consM (rdO 0) (consM (rdO 1) nilM))))
  (seqM (ifM (MV.notM (tst (callM m_is_beat (consM (rdO 2) nilM)))) failM nextM)
  (retM (callM m_behind (consM (rdO 0) (consM (frE (cN mkLst (consM (rdE 1) nilM))) (consM (rdO 2) nilM))))))))
def m_after : List Val → Option Val := fnM 0 b_after
abbrev s_law : Stmt := topS 50
abbrev N_law : List Str := ["script", "at", "spring", "machine", "row", "stands", "turn", "pause", "here_so", "signs", "beat", "stand", "there", "place", "values", "edge"]
theorem sc_law : FnScope N_law ["script"] (defScope s_law) := ⟨rfl, rfl, rfl, by decide +kernel, rfl, by decide +kernel, by decide +kernel⟩
def b_law : Sv :=
  (seqM (forM (rng1I (consM (c2 addV (cN min2V (consM (cN lenV (consM (rdO 0) nilM)) (consM (cC (.int 8)) nilM))) (cC (.int 1))) nilM)) (nameT 1) (seqM (setM 2 (callM m__law_spring (consM (rdO 0) (consM (rdO 1) nilM))))
  (seqM (parM 3 4 (consM (callIO m__law_machine 2 (consM (cC (.int 6)) nilM)) (consM (cN mkTup nilM) nilM)))
  (seqM (setM 5 (callM m__law_run (consM (rdO 3) (consM (cN mkTup nilM) nilM))))
  (seqM (forM (rng1I (consM (callIO m__law_pick 2 (consM (cC (.int 31)) nilM)) nilM)) (nameT 6) (seqM (setM 7 (callIO m__law_pause 2 (consM (rdE 3) (consM (rdE 5) nilM))))
  (seqM (setM 8 (c2 addV (lcM (seqI (rdE 5)) (tupT 2 (consT (nameT 13) (consT (nameT 14) nilT))) yesM (rdE 13) [13, 14]) (cN mkLst (consM (cC (.int 0)) nilM))))
  (seqM (setM 9 (c2 addV (lcM (seqI (c2 idxV (rdO 3) (cC (.int 1)))) (nameT 15) (tst (c2 inV2 (c2 idxV (rdO 15) (cC (.int 0))) (rdO 8))) (c2 idxV (rdO 15) (cC (.int 1))) [15]) (cN mkLst (consM (cC (.str "a")) nilM))))
  (seqM (setM 10 (cN mkTup (consM (rdE 7) (consM (c2 idxV (rdE 9) (callIO m__law_pick 2 (consM (cN lenV (consM (rdO 9) nilM)) nilM))) nilM))))
  (seqM (forM (seqI (cSl (rdO 5) partN (partS (cC (.int 4))))) (nameT 11) (ifM (MV.notM (tst (callM (m__law_twins 8) (consM (callM m_after (consM (rdO 3) (consM (rdO 11) (consM (rdO 10) nilM)))) (consM (callM m__law_behind (consM (rdO 3) (consM (cN mkLst (consM (rdE 11) nilM)) (consM (rdO 10) nilM)))) nilM))))) (retM (cC (.bl false))) nextM))
  (seqM (setM 12 (callM m__law_behind (consM (rdO 3) (consM (rdO 5) (consM (rdO 10) nilM)))))
  (ifM (MV.orM (tst (c2 neV (rdO 12) (cN mkLst nilM))) (tst (c2 eqV (callIO m__law_pick 2 (consM (cC (.int 4)) nilM)) (cC (.int 0))))) (parM 5 4 (consM (rdE 12) (consM (c2 addV (rdO 4) (cN mkTup (consM (rdE 10) nilM))) nilM))) nextM))))))))
  (ifM (MV.notM (tst (callM (m__law_twins 8) (consM (cN mkLst (consM (callM m_stands_behind (consM (rdO 3) (consM (rdO 4) nilM))) (consM (callM m_moment (consM (rdO 4) nilM)) nilM))) (consM (cN mkLst (consM (callM m__law_run (consM (rdO 3) (consM (rdO 4) nilM))) (consM (callM m__law_total (consM (rdO 4) nilM)) nilM))) nilM))))) (retM (cC (.bl false))) nextM))))))
  (retM (cC (.bl true))))
def m_law : List Val → Option Val := fnM 15 b_law
end
structure Facts (K : PySem.W.Frag) (mg : Str → Option Value) where
  f__law_spring : Addr
  fd__law_spring : FuncData
  F__law_spring : Fun K "_law_spring" "_law_spring" s__law_spring f__law_spring fd__law_spring
  b__law_spring : Binds K fd__law_spring ["script", "at"] []
  g__law_spring : mg "_law_spring" = some (.ref f__law_spring)
  f__law_low : Addr
  fd__law_low : FuncData
  F__law_low : Fun K "_law_low" "_law_low" s__law_low f__law_low fd__law_low
  b__law_low : Binds K fd__law_low ["top", "below"] []
  g__law_low : mg "_law_low" = some (.ref f__law_low)
  f__law_plus : Addr
  fd__law_plus : FuncData
  F__law_plus : Fun K "_law_plus" "_law_plus" s__law_plus f__law_plus fd__law_plus
  b__law_plus : Binds K fd__law_plus ["one", "other"] []
  g__law_plus : mg "_law_plus" = some (.ref f__law_plus)
  f__law_kept : Addr
  fd__law_kept : FuncData
  F__law_kept : Fun K "_law_kept" "_law_kept" s__law_kept f__law_kept fd__law_kept
  b__law_kept : Binds K fd__law_kept ["value", "bound"] []
  g__law_kept : mg "_law_kept" = some (.ref f__law_kept)
  f__law_behind : Addr
  fd__law_behind : FuncData
  F__law_behind : Fun K "_law_behind" "_law_behind" s__law_behind f__law_behind fd__law_behind
  b__law_behind : Binds K fd__law_behind ["machine", "stands", "beat"] []
  g__law_behind : mg "_law_behind" = some (.ref f__law_behind)
  f__law_run : Addr
  fd__law_run : FuncData
  F__law_run : Fun K "_law_run" "_law_run" s__law_run f__law_run fd__law_run
  b__law_run : Binds K fd__law_run ["machine", "row"] []
  g__law_run : mg "_law_run" = some (.ref f__law_run)
  f__law_pick : Addr
  fd__law_pick : FuncData
  F__law_pick : Fun K "_law_pick" "_law_pick" s__law_pick f__law_pick fd__law_pick
  b__law_pick : Binds K fd__law_pick ["spring", "many"] []
  g__law_pick : mg "_law_pick" = some (.ref f__law_pick)
  f__law_bound : Addr
  fd__law_bound : FuncData
  F__law_bound : Fun K "_law_bound" "_law_bound" s__law_bound f__law_bound fd__law_bound
  b__law_bound : Binds K fd__law_bound ["spring"] []
  g__law_bound : mg "_law_bound" = some (.ref f__law_bound)
  f__law_edge : Addr
  fd__law_edge : FuncData
  F__law_edge : Fun K "_law_edge" "_law_edge" s__law_edge f__law_edge fd__law_edge
  b__law_edge : Binds K fd__law_edge ["spring", "clocks"] []
  g__law_edge : mg "_law_edge" = some (.ref f__law_edge)
  f__law_machine : Addr
  fd__law_machine : FuncData
  F__law_machine : Fun K "_law_machine" "_law_machine" s__law_machine f__law_machine fd__law_machine
  b__law_machine : Binds K fd__law_machine ["spring", "most"] []
  g__law_machine : mg "_law_machine" = some (.ref f__law_machine)
  f__law_pause : Addr
  fd__law_pause : FuncData
  F__law_pause : Fun K "_law_pause" "_law_pause" s__law_pause f__law_pause fd__law_pause
  b__law_pause : Binds K fd__law_pause ["spring", "machine", "stands"] []
  g__law_pause : mg "_law_pause" = some (.ref f__law_pause)
  f__law_kind : Addr
  fd__law_kind : FuncData
  F__law_kind : Fun K "_law_kind" "_law_kind" s__law_kind f__law_kind fd__law_kind
  b__law_kind : Binds K fd__law_kind ["value"] []
  g__law_kind : mg "_law_kind" = some (.ref f__law_kind)
  f__law_twins : Addr
  fd__law_twins : FuncData
  F__law_twins : Fun K "_law_twins" "_law_twins" s__law_twins f__law_twins fd__law_twins
  b__law_twins : Binds K fd__law_twins ["one", "other"] []
  g__law_twins : mg "_law_twins" = some (.ref f__law_twins)
  f_is_row_of : Addr
  fd_is_row_of : FuncData
  F_is_row_of : Fun K "is_row_of" "is_row_of" s_is_row_of f_is_row_of fd_is_row_of
  b_is_row_of : Binds K fd_is_row_of ["value", "many"] []
  g_is_row_of : mg "is_row_of" = some (.ref f_is_row_of)
  f_is_within : Addr
  fd_is_within : FuncData
  F_is_within : Fun K "is_within" "is_within" s_is_within f_is_within fd_is_within
  b_is_within : Binds K fd_is_within ["value", "low", "high"] []
  g_is_within : mg "is_within" = some (.ref f_is_within)
  f_is_sign : Addr
  fd_is_sign : FuncData
  F_is_sign : Fun K "is_sign" "is_sign" s_is_sign f_is_sign fd_is_sign
  b_is_sign : Binds K fd_is_sign ["value"] []
  g_is_sign : mg "is_sign" = some (.ref f_is_sign)
  f_is_bound : Addr
  fd_is_bound : FuncData
  F_is_bound : Fun K "is_bound" "is_bound" s_is_bound f_is_bound fd_is_bound
  b_is_bound : Binds K fd_is_bound ["value"] []
  g_is_bound : mg "is_bound" = some (.ref f_is_bound)
  f_is_edge : Addr
  fd_is_edge : FuncData
  F_is_edge : Fun K "is_edge" "is_edge" s_is_edge f_is_edge fd_is_edge
  b_is_edge : Binds K fd_is_edge ["clocks", "value"] []
  g_is_edge : mg "is_edge" = some (.ref f_is_edge)
  f_is_machine : Addr
  fd_is_machine : FuncData
  F_is_machine : Fun K "is_machine" "is_machine" s_is_machine f_is_machine fd_is_machine
  b_is_machine : Binds K fd_is_machine ["value"] []
  g_is_machine : mg "is_machine" = some (.ref f_is_machine)
  f_look_at_machine : Addr
  fd_look_at_machine : FuncData
  F_look_at_machine : Fun K "look_at_machine" "look_at_machine" s_look_at_machine f_look_at_machine fd_look_at_machine
  b_look_at_machine : Binds K fd_look_at_machine ["machine"] []
  g_look_at_machine : mg "look_at_machine" = some (.ref f_look_at_machine)
  f_common : Addr
  fd_common : FuncData
  F_common : Fun K "common" "common" s_common f_common fd_common
  b_common : Binds K fd_common ["one", "other"] []
  g_common : mg "common" = some (.ref f_common)
  f_is_fraction : Addr
  fd_is_fraction : FuncData
  F_is_fraction : Fun K "is_fraction" "is_fraction" s_is_fraction f_is_fraction fd_is_fraction
  b_is_fraction : Binds K fd_is_fraction ["value"] []
  g_is_fraction : mg "is_fraction" = some (.ref f_is_fraction)
  f_is_beat : Addr
  fd_is_beat : FuncData
  F_is_beat : Fun K "is_beat" "is_beat" s_is_beat f_is_beat fd_is_beat
  b_is_beat : Binds K fd_is_beat ["value"] []
  g_is_beat : mg "is_beat" = some (.ref f_is_beat)
  f_is_row : Addr
  fd_is_row : FuncData
  F_is_row : Fun K "is_row" "is_row" s_is_row f_is_row fd_is_row
  b_is_row : Binds K fd_is_row ["value"] []
  g_is_row : mg "is_row" = some (.ref f_is_row)
  f_look_at_row : Addr
  fd_look_at_row : FuncData
  F_look_at_row : Fun K "look_at_row" "look_at_row" s_look_at_row f_look_at_row fd_look_at_row
  b_look_at_row : Binds K fd_look_at_row ["row"] []
  g_look_at_row : mg "look_at_row" = some (.ref f_look_at_row)
  f_lowest : Addr
  fd_lowest : FuncData
  F_lowest : Fun K "lowest" "lowest" s_lowest f_lowest fd_lowest
  b_lowest : Binds K fd_lowest ["top", "below"] []
  g_lowest : mg "lowest" = some (.ref f_lowest)
  f_plus : Addr
  fd_plus : FuncData
  F_plus : Fun K "plus" "plus" s_plus f_plus fd_plus
  b_plus : Binds K fd_plus ["one", "other"] []
  g_plus : mg "plus" = some (.ref f_plus)
  f_keeps : Addr
  fd_keeps : FuncData
  F_keeps : Fun K "keeps" "keeps" s_keeps f_keeps fd_keeps
  b_keeps : Binds K fd_keeps ["value", "bound"] []
  g_keeps : mg "keeps" = some (.ref f_keeps)
  f_behind : Addr
  fd_behind : FuncData
  F_behind : Fun K "behind" "behind" s_behind f_behind fd_behind
  b_behind : Binds K fd_behind ["machine", "stands", "beat"] []
  g_behind : mg "behind" = some (.ref f_behind)
  f_stands_by : Addr
  fd_stands_by : FuncData
  F_stands_by : Fun K "stands_by" "stands_by" s_stands_by f_stands_by fd_stands_by
  b_stands_by : Binds K fd_stands_by ["machine", "stands", "row"] []
  g_stands_by : mg "stands_by" = some (.ref f_stands_by)
  f_begin_of : Addr
  fd_begin_of : FuncData
  F_begin_of : Fun K "begin_of" "begin_of" s_begin_of f_begin_of fd_begin_of
  b_begin_of : Binds K fd_begin_of ["machine"] []
  g_begin_of : mg "begin_of" = some (.ref f_begin_of)
  f_stands_behind : Addr
  fd_stands_behind : FuncData
  F_stands_behind : Fun K "stands_behind" "stands_behind" s_stands_behind f_stands_behind fd_stands_behind
  b_stands_behind : Binds K fd_stands_behind ["machine", "row"] []
  g_stands_behind : mg "stands_behind" = some (.ref f_stands_behind)
  f_moment_of : Addr
  fd_moment_of : FuncData
  F_moment_of : Fun K "moment_of" "moment_of" s_moment_of f_moment_of fd_moment_of
  b_moment_of : Binds K fd_moment_of ["row"] []
  g_moment_of : mg "moment_of" = some (.ref f_moment_of)
  f_moment : Addr
  fd_moment : FuncData
  F_moment : Fun K "moment" "moment" s_moment f_moment fd_moment
  b_moment : Binds K fd_moment ["row"] []
  g_moment : mg "moment" = some (.ref f_moment)
  f__law_total : Addr
  fd__law_total : FuncData
  F__law_total : Fun K "_law_total" "_law_total" s__law_total f__law_total fd__law_total
  b__law_total : Binds K fd__law_total ["row"] []
  g__law_total : mg "_law_total" = some (.ref f__law_total)
  f_look_at_stand : Addr
  fd_look_at_stand : FuncData
  F_look_at_stand : Fun K "look_at_stand" "look_at_stand" s_look_at_stand f_look_at_stand fd_look_at_stand
  b_look_at_stand : Binds K fd_look_at_stand ["machine", "stand"] []
  g_look_at_stand : mg "look_at_stand" = some (.ref f_look_at_stand)
  f_after : Addr
  fd_after : FuncData
  F_after : Fun K "after" "after" s_after f_after fd_after
  b_after : Binds K fd_after ["machine", "stand", "beat"] []
  g_after : mg "after" = some (.ref f_after)
  f_law : Addr
  fd_law : FuncData
  F_law : Fun K "law" "law" s_law f_law fd_law
  b_law : Binds K fd_law ["script"] []
  g_law : mg "law" = some (.ref f_law)
  z_len : mg "len" = none
  z_abs : mg "abs" = none
  z_int : mg "int" = none
  z_range : mg "range" = none
  z_tuple : mg "tuple" = none
  z_sorted : mg "sorted" = none
  z_set : mg "set" = none
  z_max : mg "max" = none
  z_isinstance : mg "isinstance" = none
  z_bool : mg "bool" = none
  z_list : mg "list" = none
  z_str : mg "str" = none
  z_zip : mg "zip" = none
  z_all : mg "all" = none
  z_enumerate : mg "enumerate" = none
  z_min : mg "min" = none
  q_SIGNS : Glb K mg "SIGNS" v_SIGNS
  q_FAR : Glb K mg "FAR" v_FAR
  q_MOST_BEATS : Glb K mg "MOST_BEATS" v_MOST_BEATS
  q_NOUGHT : Glb K mg "NOUGHT" v_NOUGHT
section
variable {P : Program} {w : World} {K : PySem.W.Frag} {mg : Str → Option Value} {base : Heap}
theorem ok__law_spring (W : Facts K mg) (k : Nat) : FnOk P w K mg base CX0 (k + 1) W.f__law_spring W.fd__law_spring ["script", "at"] (spM P w K 2 m__law_spring) :=
  fn_ok (k := k + 0) (B := b__law_spring) W.F__law_spring sc__law_spring rfl rfl fun cdv A outer s H E hr => by
    have hu := hu64 hr
    exact (sss_cons (ss_set (i := 2) sc__law_spring.nd (Nat.zero_le _) se_int)
  (sss_cons (ss_if (st_cmp (op_ltV hu) (mG _) (so_rd 1) (SE.o (se_callB call_lenV (mGN _) W.z_len (by decide +kernel) (sos_cons (so_rd 0) sos_nil))) (by rfl)) (sss_one (ss_set (i := 2) sc__law_spring.nd (Nat.zero_le _) (se_callB call_absV (mGN _) W.z_abs (by decide +kernel) (sos_cons (SE.o (se_ix ix_idxV (mG _) (so_rd 0) (so_rd 1) (fun _ _ => rfl))) sos_nil)))) sss_nil)
  (sss_cons (ss_set (i := 3) sc__law_spring.nd (Nat.zero_le _) (se_op op_modV (mG _) (SE.o (se_callTy call_intV (mGN _) W.z_int (by decide +kernel) (sos_cons (SE.o (se_op op_addV (mG _) (SE.o (se_op op_addV (mG _) (SE.o (se_op op_mulV (mG _) (so_rd 2) (SE.o se_int))) (SE.o (se_op op_mulV (mG _) (SE.o se_int) (so_rd 1))))) (SE.o se_int))) sos_nil))) (SE.o se_int)))
  (sss_one (ss_ret (se_lst (ses_cons (se_ifx (st_cmp op_geV (mG _) (so_rd 2) (SE.o (se_op op_powV (mG _) (SE.o se_int) (SE.o se_int))) (by rfl)) (se_rd 2) se_int) (ses_cons (se_rd 3) ses_nil))))))))
theorem ok__law_low (W : Facts K mg) (k : Nat) : FnOk P w K mg base CX0 (k + 1) W.f__law_low W.fd__law_low ["top", "below"] (spM P w K 2 m__law_low) :=
  fn_ok (k := k + 0) (B := b__law_low) W.F__law_low sc__law_low rfl rfl fun cdv A outer s H E hr => by
    have hu := hu64 hr
    exact (sss_cons (ss_par (i := 2) (j := 3) rfl sc__law_low.nd (by decide) (Nat.zero_le _) (Nat.zero_le _) (ses_cons (se_rd 0) (ses_cons (se_rd 1) ses_nil)))
  (sss_cons (ss_while PassesOwn.never (st_cmp (op_neV2 hu) (mG _) (so_rd 3) (SE.o se_int) (by rfl)) (sss_one (ss_par (i := 2) (j := 3) rfl sc__law_low.nd (by decide) (Nat.zero_le _) (Nat.zero_le _) (ses_cons (se_rd 3) (ses_cons (se_op op_modV (mG _) (so_rd 2) (so_rd 3)) ses_nil)))))
  (sss_one (ss_ret (se_tup (ses_cons (se_op op_fdivV (mG _) (so_rd 0) (so_rd 2)) (ses_cons (se_op op_fdivV (mG _) (so_rd 1) (so_rd 2)) ses_nil)))))))
theorem ok__law_plus (W : Facts K mg) (k : Nat) : FnOk P w K mg base CX0 (k + 2) W.f__law_plus W.fd__law_plus ["one", "other"] (spM P w K 2 m__law_plus) :=
  fn_ok (k := k + 1) (B := b__law_plus) W.F__law_plus sc__law_plus rfl rfl fun cdv A outer s H E hr => by
    have hu := hu64 hr
    exact (sss_one (ss_ret (se_call (ok__law_low W (k + 0)) hr W.g__law_low W.F__law_low.kp W.b__law_low (sos_cons (SE.o (se_op op_addV (mG _) (SE.o (se_op op_mulV (mG _) (SE.o (se_ix ix_idxV (mG _) (so_rd 0) (SE.o se_int) (fun _ _ => rfl))) (SE.o (se_ix ix_idxV (mG _) (so_rd 1) (SE.o se_int) (fun _ _ => rfl))))) (SE.o (se_op op_mulV (mG _) (SE.o (se_ix ix_idxV (mG _) (so_rd 1) (SE.o se_int) (fun _ _ => rfl))) (SE.o (se_ix ix_idxV (mG _) (so_rd 0) (SE.o se_int) (fun _ _ => rfl))))))) (sos_cons (SE.o (se_op op_mulV (mG _) (SE.o (se_ix ix_idxV (mG _) (so_rd 0) (SE.o se_int) (fun _ _ => rfl))) (SE.o (se_ix ix_idxV (mG _) (so_rd 1) (SE.o se_int) (fun _ _ => rfl))))) sos_nil)) (consM_len (consM_len nilM_len)))))
theorem ok__law_kept (W : Facts K mg) (k : Nat) : FnOk P w K mg base CX0 (k + 1) W.f__law_kept W.fd__law_kept ["value", "bound"] (spM P w K 2 m__law_kept) :=
  fn_ok (k := k + 0) (B := b__law_kept) W.F__law_kept sc__law_kept rfl rfl fun cdv A outer s H E hr => by
    have hu := hu64 hr
    exact (sss_cons (ss_asg (fun _ _ => Nat.zero_le _) (se_rd 0) (sg_tup rfl (sgs_cons (sg_name (i := 2) sc__law_kept.nd) (sgs_cons (sg_name (i := 3) sc__law_kept.nd) sgs_nil))))
  (sss_cons (ss_asg (fun _ _ => Nat.zero_le _) (se_rd 1) (sg_tup rfl (sgs_cons (sg_name (i := 4) sc__law_kept.nd) (sgs_cons (sg_name (i := 5) sc__law_kept.nd) (sgs_cons (sg_name (i := 6) sc__law_kept.nd) (sgs_cons (sg_name (i := 7) sc__law_kept.nd) sgs_nil))))))
  (sss_cons (ss_if ((sw_or (st_cmp (op_ltV hu) (mG _) (so_rd 2) (SE.o (se_op op_mulV (mG _) (so_rd 4) (so_rd 3))) (by rfl)) (sw_or1 ((sw_and (st_cmp (op_eqV2 hu) (mG _) (so_rd 2) (SE.o (se_op op_mulV (mG _) (so_rd 4) (so_rd 3))) (by rfl)) (sw_and1 (st_not (st_val (so_rd 5))))).pt))).pt) (sss_one (ss_ret se_bl)) sss_nil)
  (sss_one (ss_ret (se_or (SE.o (se_cmp (op_eqV2 hu) (mG _) (so_rd 6) (SE.o se_int) (by rfl))) (se_or (SE.o (se_cmp (op_ltV hu) (mG _) (so_rd 2) (SE.o (se_op op_mulV (mG _) (so_rd 6) (so_rd 3))) (by rfl))) (se_one (se_and (SE.o (se_cmp (op_eqV2 hu) (mG _) (so_rd 2) (SE.o (se_op op_mulV (mG _) (so_rd 6) (so_rd 3))) (by rfl))) (se_one (se_rd 7)))))))))))
theorem ok__law_behind (W : Facts K mg) (k : Nat) : FnOk P w K mg base CX0 (k + 3) W.f__law_behind W.fd__law_behind ["machine", "stands", "beat"] (spM P w K 3 m__law_behind) :=
  fn_ok (k := k + 2) (B := b__law_behind) W.F__law_behind sc__law_behind rfl rfl fun cdv A outer s H E hr => by
    have hu := hu64 hr
    exact (sss_cons (ss_set (i := 3) sc__law_behind.nd (Nat.zero_le _) se_dnew)
  (sss_cons (ss_for PassesOwn.never rfl (fun _ _ => Nat.zero_le _) (si_seq (se_rd 1)) (sg_tup rfl (sgs_cons (sg_name (i := 4) sc__law_behind.nd) (sgs_cons (sg_name (i := 5) sc__law_behind.nd) sgs_nil))) (sss_cons (ss_set (i := 6) sc__law_behind.nd (Nat.zero_le _) (se_frz (se_lc (own := [("value", 10)]) rfl sc__law_behind.nd (si_seq (se_rd 5)) (blkOk_by (own := [("value", 10)]) (N := N__law_behind) (sc := defScope s__law_behind) (by decide +kernel)) (by decide) (fun _ _ _ _ _ => (sg_name (i := 10) sc__law_behind.nd)) (fun _ _ _ _ _ => sts_nil) (fun _ _ _ _ _ => (se_call (ok__law_plus W (k + 0)) hr W.g__law_plus W.F__law_plus.kp W.b__law_plus (sos_cons (so_rd 10) (sos_cons (SE.o (se_ix ix_idxV (mG _) (so_rd 2) (SE.o se_int) (fun _ _ => rfl))) sos_nil)) (consM_len (consM_len nilM_len)))))))
  (sss_one (ss_for PassesOwn.never rfl (fun _ _ => Nat.zero_le _) (si_seq (se_ix ix_idxV (mG _) (so_rd 0) (SE.o se_int) (fun _ _ => rfl))) (sg_name (i := 7) sc__law_behind.nd) (sss_cons (ss_setLcF (i := 8) (own := [("clock", 11)]) rfl sc__law_behind.nd (Nat.zero_le _) (si_rng1 W.z_range (sos_cons (SE.o (se_ix ix_idxV (mG _) (so_rd 0) (SE.o se_int) (fun _ _ => rfl))) sos_nil)) (blkOk_by (own := [("clock", 11)]) (N := N__law_behind) (sc := defScope s__law_behind) (by decide +kernel)) (by decide) (fun _ _ _ _ _ => (sg_name (i := 11) sc__law_behind.nd)) (fun _ _ _ _ _ => (sts_one (st_not (st_val (SE.o (se_call (ok__law_kept W (k + 1)) hr W.g__law_kept W.F__law_kept.kp W.b__law_kept (sos_cons (SE.o (se_ix ix_idxV (mG _) (so_rd 6) (so_rd 11) (fun _ _ => rfl))) (sos_cons (SE.o (se_ix ix_idxV (mG _) (SE.o (se_ix ix_idxV (mG _) (so_rd 7) (SE.o se_int) (fun _ _ => rfl))) (so_rd 11) (fun _ _ => rfl))) sos_nil)) (consM_len (consM_len nilM_len)))))))) (fun _ _ _ _ _ => (se_rd 11)))
  (sss_one (ss_if ((sw_and (st_cmp (op_eqV2 hu) (mG _) (SE.o (se_ix ix_idxV (mG _) (so_rd 7) (SE.o se_int) (fun _ _ => rfl))) (so_rd 4) (by rfl)) (sw_and (st_cmp (op_eqV2 hu) (mG _) (SE.o (se_ix ix_idxV (mG _) (so_rd 7) (SE.o se_int) (fun _ _ => rfl))) (SE.o (se_ix ix_idxV (mG _) (so_rd 2) (SE.o se_int) (fun _ _ => rfl))) (by rfl)) (sw_and1 (st_cmp (op_eqV2 hu) (mG _) (so_rd 8) (SE.o (se_lst ses_nil)) (by rfl))))).pt) (sss_cons (ss_set (i := 9) sc__law_behind.nd (Nat.zero_le _) (se_callTy call_tupleV (mGN _) W.z_tuple (by decide +kernel) (sos_cons (SE.o (se_lc (own := [("clock", 11)]) rfl sc__law_behind.nd (si_rng1 W.z_range (sos_cons (SE.o (se_ix ix_idxV (mG _) (so_rd 0) (SE.o se_int) (fun _ _ => rfl))) sos_nil)) (blkOk_by (own := [("clock", 11)]) (N := N__law_behind) (sc := defScope s__law_behind) (by decide +kernel)) (by decide) (fun _ _ _ _ _ => (sg_name (i := 11) sc__law_behind.nd)) (fun _ _ _ _ _ => sts_nil) (fun _ _ _ _ _ => (se_ifx (st_cmp (op_inV2 hu) (mG _) (so_rd 11) (SE.o (se_ix ix_idxV (mG _) (so_rd 7) (SE.o se_int) (fun _ _ => rfl))) (by rfl)) (se_tup (ses_cons se_int (ses_cons se_int ses_nil))) (se_ix ix_idxV (mG _) (so_rd 6) (so_rd 11) (fun _ _ => rfl)))))) sos_nil)))
  (sss_one (ss_dput (i := 3) hu se_bl (SE.o (se_tup (ses_cons (se_ix ix_idxV (mG _) (so_rd 7) (SE.o se_int) (fun _ _ => rfl)) (ses_cons (se_rd 9) ses_nil))))))) sss_nil)))))))
  (sss_one (ss_ret (se_sortdct rfl hu W.z_sorted (so_rd 3))))))
theorem ok__law_run (W : Facts K mg) (k : Nat) : FnOk P w K mg base CX0 (k + 4) W.f__law_run W.fd__law_run ["machine", "row"] (spM P w K 2 m__law_run) :=
  fn_ok (k := k + 3) (B := b__law_run) W.F__law_run sc__law_run rfl rfl fun cdv A outer s H E hr => by
    have hu := hu64 hr
    exact (sss_cons (ss_set (i := 2) sc__law_run.nd (Nat.zero_le _) (se_frz (se_lst (ses_cons (se_tup (ses_cons se_int (ses_cons (se_op op_mulV (mG _) (SE.o (se_tup (ses_cons (se_tup (ses_cons se_int (ses_cons se_int ses_nil))) ses_nil))) (SE.o (se_ix ix_idxV (mG _) (so_rd 0) (SE.o se_int) (fun _ _ => rfl)))) ses_nil))) ses_nil))))
  (sss_cons (ss_for PassesOwn.never rfl (fun _ _ => Nat.zero_le _) (si_seq (se_rd 1)) (sg_name (i := 3) sc__law_run.nd) (sss_one (ss_set (i := 2) sc__law_run.nd (Nat.zero_le _) (se_frz (se_call (ok__law_behind W (k + 0)) hr W.g__law_behind W.F__law_behind.kp W.b__law_behind (sos_cons (so_rd 0) (sos_cons (so_rd 2) (sos_cons (so_rd 3) sos_nil))) (consM_len (consM_len (consM_len nilM_len))))))))
  (sss_one (ss_ret (se_mv 2)))))
theorem ok__law_pick (W : Facts K mg) (k : Nat) : FnOk P w K mg base CX0 (k + 1) W.f__law_pick W.fd__law_pick ["spring", "many"] (spIO P w K 2 m__law_pick) :=
  fn_okIO (k := k + 0) (B := b__law_pick) W.F__law_pick sc__law_pick rfl rfl fun cdv A outer s H E hr => by
    have hu := hu64 hr
    exact (sss_cons (ss_if (st_cmp op_gtV (mG _) (SE.o (se_ix ix_idxV (mG _) (so_rd 0) (SE.o se_int) (fun _ _ => rfl))) (SE.o se_int) (by rfl)) (sss_cons (ss_set (i := 2) sc__law_pick.nd (by decide) (se_op op_modV (mG _) (SE.o (se_callTy call_intV (mGN _) W.z_int (by decide +kernel) (sos_cons (SE.o (se_ix ix_idxV (mG _) (so_rd 0) (SE.o se_int) (fun _ _ => rfl))) sos_nil))) (so_rd 1)))
  (sss_cons (ss_setItem (i := 0) (se_op op_fdivV (mG _) (SE.o (se_ix ix_idxV (mG _) (so_rd 0) (SE.o se_int) (fun _ _ => rfl))) (so_rd 1)) (SE.o se_int))
  (sss_one (ss_ret (se_mv 2))))) sss_nil)
  (sss_cons (ss_setItem (i := 0) (se_op op_modV (mG _) (SE.o (se_callTy call_intV (mGN _) W.z_int (by decide +kernel) (sos_cons (SE.o (se_op op_addV (mG _) (SE.o (se_op op_mulV (mG _) (SE.o (se_ix ix_idxV (mG _) (so_rd 0) (SE.o se_int) (fun _ _ => rfl))) (SE.o se_int))) (SE.o se_int))) sos_nil))) (SE.o se_int)) (SE.o se_int))
  (sss_one (ss_ret (se_op op_modV (mG _) (SE.o (se_callTy call_intV (mGN _) W.z_int (by decide +kernel) (sos_cons (SE.o (se_op op_fdivV (mG _) (SE.o (se_ix ix_idxV (mG _) (so_rd 0) (SE.o se_int) (fun _ _ => rfl))) (SE.o se_int))) sos_nil))) (so_rd 1))))))
theorem ok__law_bound (W : Facts K mg) (k : Nat) : FnOk P w K mg base CX0 (k + 2) W.f__law_bound W.fd__law_bound ["spring"] (spIO P w K 1 m__law_bound) :=
  fn_okIO (k := k + 1) (B := b__law_bound) W.F__law_bound sc__law_bound rfl rfl fun cdv A outer s H E hr => by
    have hu := hu64 hr
    exact (sss_cons (ss_set (i := 1) sc__law_bound.nd (by decide) (se_callIO (i := 0) (ok__law_pick W (k + 0)) hr W.g__law_pick W.F__law_pick.kp W.b__law_pick (ses_cons se_int ses_nil) (fun _ _ h => congrArg (· + 1) ((consM_len nilM_len) _ _ h))))
  (sss_cons (ss_par (i := 2) (j := 3) rfl sc__law_bound.nd (by decide) (by decide) (by decide) (ses_cons (se_callIO (i := 0) (ok__law_pick W (k + 0)) hr W.g__law_pick W.F__law_pick.kp W.b__law_pick (ses_cons se_int ses_nil) (fun _ _ h => congrArg (· + 1) ((consM_len nilM_len) _ _ h))) (ses_cons (se_cmp (op_eqV2 hu) (mG _) (SE.o (se_callIO (i := 0) (ok__law_pick W (k + 0)) hr W.g__law_pick W.F__law_pick.kp W.b__law_pick (ses_cons se_int ses_nil) (fun _ _ h => congrArg (· + 1) ((consM_len nilM_len) _ _ h)))) (SE.o se_int) (by rfl)) (SEs.weak ses_nil))))
  (sss_cons (ss_if (st_cmp (op_ltV hu) (mG _) (so_rd 1) (SE.o se_int) (by rfl)) (sss_one (ss_ret (se_tup (ses_cons se_int (ses_cons se_bl (ses_cons se_int (ses_cons se_bl ses_nil))))))) sss_nil)
  (sss_cons (ss_if (st_cmp (op_eqV2 hu) (mG _) (so_rd 1) (SE.o se_int) (by rfl)) (sss_one (ss_ret (se_tup (ses_cons (se_rd 2) (ses_cons se_bl (ses_cons (se_rd 2) (ses_cons se_bl ses_nil))))))) sss_nil)
  (sss_cons (ss_if (st_cmp (op_eqV2 hu) (mG _) (so_rd 1) (SE.o se_int) (by rfl)) (sss_one (ss_ret (se_tup (ses_cons (se_rd 2) (ses_cons (se_rd 3) (ses_cons se_int (ses_cons se_bl ses_nil))))))) sss_nil)
  (sss_one (ss_ret (se_tup (ses_cons ((SE.weak (se_rd 2))) (ses_cons ((SE.weak (se_rd 3))) (ses_cons (se_op' op_addV (mG _) ((SE.weak (se_op op_addV (mG _) (so_rd 2) (SE.o se_int)))) (SE.o (se_callIO (i := 0) (ok__law_pick W (k + 0)) hr W.g__law_pick W.F__law_pick.kp W.b__law_pick (ses_cons (se_op op_subV (mG _) (SE.o se_int) (so_rd 2)) ses_nil) (fun _ _ h => congrArg (· + 1) ((consM_len nilM_len) _ _ h))))) (ses_cons (se_cmp (op_eqV2 hu) (mG _) (SE.o (se_callIO (i := 0) (ok__law_pick W (k + 0)) hr W.g__law_pick W.F__law_pick.kp W.b__law_pick (ses_cons se_int ses_nil) (fun _ _ h => congrArg (· + 1) ((consM_len nilM_len) _ _ h)))) (SE.o se_int) (by rfl)) (SEs.weak ses_nil)))))))))))))
theorem ok__law_edge (W : Facts K mg) (k : Nat) : FnOk P w K mg base CX0 (k + 3) W.f__law_edge W.fd__law_edge ["spring", "clocks"] (spIO P w K 2 m__law_edge) :=
  fn_okIO (k := k + 2) (B := b__law_edge) W.F__law_edge sc__law_edge rfl rfl fun cdv A outer s H E hr => by
    have hu := hu64 hr
    exact (sss_cons (ss_par (i := 2) (j := 3) rfl sc__law_edge.nd (by decide) (by decide) (by decide) (ses_cons (se_ix' ix_idxV (mG _) ((SE.weak (se_lst (ses_cons se_int (ses_cons se_int (ses_cons se_int (ses_cons se_int ses_nil))))))) (SE.o (se_callIO (i := 0) (ok__law_pick W (k + 1)) hr W.g__law_pick W.F__law_pick.kp W.b__law_pick (ses_cons se_int ses_nil) (fun _ _ h => congrArg (· + 1) ((consM_len nilM_len) _ _ h)))) (fun _ _ => rfl)) (ses_cons (se_ix' ix_idxV (mG _) ((SE.weak (se_lst (ses_cons se_int (ses_cons se_int (ses_cons se_int (ses_cons se_int ses_nil))))))) (SE.o (se_callIO (i := 0) (ok__law_pick W (k + 1)) hr W.g__law_pick W.F__law_pick.kp W.b__law_pick (ses_cons se_int ses_nil) (fun _ _ h => congrArg (· + 1) ((consM_len nilM_len) _ _ h)))) (fun _ _ => rfl)) (SEs.weak ses_nil))))
  (sss_cons (ss_set (i := 4) sc__law_edge.nd (by decide) (se_ix' ix_idxV (mG _) ((SE.weak (se_lst (ses_cons se_str (ses_cons se_str (ses_cons se_str (ses_cons se_str ses_nil))))))) (SE.o (se_callIO (i := 0) (ok__law_pick W (k + 1)) hr W.g__law_pick W.F__law_pick.kp W.b__law_pick (ses_cons se_int ses_nil) (fun _ _ h => congrArg (· + 1) ((consM_len nilM_len) _ _ h)))) (fun _ _ => rfl)))
  (sss_cons (ss_set (i := 5) sc__law_edge.nd (by decide) (se_callTy call_tupleV (mGN _) W.z_tuple (by decide +kernel) (sos_cons (SE.o (se_lc (own := [("clock", 6)]) rfl sc__law_edge.nd ((SI.weak (si_rng1 W.z_range (sos_cons (so_rd 1) sos_nil)))) (blkOk_by (own := [("clock", 6)]) (N := N__law_edge) (sc := defScope s__law_edge) (by decide +kernel)) (by decide) (fun _ _ _ _ _ => (sg_name (i := 6) sc__law_edge.nd)) (fun _ _ _ _ _ => ((STs.weak sts_nil))) (fun _ _ _ _ _ => (se_callIO (i := 0) (ok__law_bound W (k + 0)) hr W.g__law_bound W.F__law_bound.kp W.b__law_bound ses_nil (fun _ _ h => congrArg (· + 1) (nilM_len _ _ h)))))) sos_nil)))
  (sss_one (ss_ret (se_tup (ses_cons ((SE.weak (se_rd 2))) (ses_cons ((SE.weak (se_rd 4))) (ses_cons ((SE.weak (se_rd 5))) (ses_cons (se_callTy call_tupleV (mGN _) W.z_tuple (by decide +kernel) (sos_cons (SE.o (se_lc (own := [("clock", 6)]) rfl sc__law_edge.nd ((SI.weak (si_rng1 W.z_range (sos_cons (so_rd 1) sos_nil)))) (blkOk_by (own := [("clock", 6)]) (N := N__law_edge) (sc := defScope s__law_edge) (by decide +kernel)) (by decide) (fun _ _ _ _ _ => (sg_name (i := 6) sc__law_edge.nd)) (fun _ _ _ _ _ => (sts_one (st_cmp (op_eqV2 hu) (mG _) (SE.o (se_callIO (i := 0) (ok__law_pick W (k + 1)) hr W.g__law_pick W.F__law_pick.kp W.b__law_pick (ses_cons se_int ses_nil) (fun _ _ h => congrArg (· + 1) ((consM_len nilM_len) _ _ h)))) (SE.o se_int) (by rfl)))) (fun _ _ _ _ _ => ((SE.weak (se_rd 6)))))) sos_nil)) (ses_cons ((SE.weak (se_rd 3))) (SEs.weak ses_nil))))))))))))
theorem ok__law_machine (W : Facts K mg) (k : Nat) : FnOk P w K mg base CX0 (k + 4) W.f__law_machine W.fd__law_machine ["spring", "most"] (spIO P w K 2 m__law_machine) :=
  fn_okIO (k := k + 3) (B := b__law_machine) W.F__law_machine sc__law_machine rfl rfl fun cdv A outer s H E hr => by
    have hu := hu64 hr
    exact (sss_cons (ss_set (i := 2) sc__law_machine.nd (by decide) (se_op' op_addV (mG _) ((SE.weak se_int)) (SE.o (se_callIO (i := 0) (ok__law_pick W (k + 2)) hr W.g__law_pick W.F__law_pick.kp W.b__law_pick (ses_cons se_int ses_nil) (fun _ _ h => congrArg (· + 1) ((consM_len nilM_len) _ _ h))))))
  (sss_cons (ss_setLc (i := 3) (own := [("turn", 4)]) rfl sc__law_machine.nd (by decide) (si_rng1 W.z_range (sos_cons (SE.o (se_op' op_addV (mG _) ((SE.weak se_int)) (SE.o (se_callIO (i := 0) (ok__law_pick W (k + 2)) hr W.g__law_pick W.F__law_pick.kp W.b__law_pick (ses_cons (se_rd 1) ses_nil) (fun _ _ h => congrArg (· + 1) ((consM_len nilM_len) _ _ h)))))) sos_nil)) (blkOk_by (own := [("turn", 4)]) (N := N__law_machine) (sc := defScope s__law_machine) (by decide +kernel)) (by decide) (fun _ _ _ _ _ => (sg_name (i := 4) sc__law_machine.nd)) (fun _ _ _ _ _ => ((STs.weak sts_nil))) (fun _ _ _ _ _ => (se_callIO (i := 0) (ok__law_edge W (k + 0)) hr W.g__law_edge W.F__law_edge.kp W.b__law_edge (ses_cons (se_rd 2) ses_nil) (fun _ _ h => congrArg (· + 1) ((consM_len nilM_len) _ _ h)))))
  (sss_one (ss_ret (se_tup (ses_cons (se_rd 2) (ses_cons (se_callTy call_tupleV (mGN _) W.z_tuple (by decide +kernel) (sos_cons (SE.o (se_sortset rfl hu W.z_sorted W.z_set (so_rd 3))) sos_nil)) ses_nil)))))))
theorem ok__law_pause (W : Facts K mg) (k : Nat) : FnOk P w K mg base CX0 (k + 2) W.f__law_pause W.fd__law_pause ["spring", "machine", "stands"] (spIO P w K 3 m__law_pause) :=
  fn_okIO (k := k + 1) (B := b__law_pause) W.F__law_pause sc__law_pause rfl rfl fun cdv A outer s H E hr => by
    have hu := hu64 hr
    exact (sss_cons (ss_set (i := 3) sc__law_pause.nd (by decide) (se_callIO (i := 0) (ok__law_pick W (k + 0)) hr W.g__law_pick W.F__law_pick.kp W.b__law_pick (ses_cons se_int ses_nil) (fun _ _ h => congrArg (· + 1) ((consM_len nilM_len) _ _ h))))
  (sss_cons (ss_if ((sw_or (st_cmp (op_eqV2 hu) (mG _) (so_rd 3) (SE.o se_int) (by rfl)) (sw_or1 (st_cmp (op_eqV2 hu) (mG _) (so_rd 2) (SE.o (se_lst ses_nil)) (by rfl)))).pt) (sss_one (ss_ret (se_call (ok__law_low W (k + 0)) hr W.g__law_low W.F__law_low.kp W.b__law_low (sos_cons' (se_callIO (i := 0) (ok__law_pick W (k + 0)) hr W.g__law_pick W.F__law_pick.kp W.b__law_pick (ses_cons se_int ses_nil) (fun _ _ h => congrArg (· + 1) ((consM_len nilM_len) _ _ h))) (sos_cons (SE.o (se_op' op_addV (mG _) ((SE.weak se_int)) (SE.o (se_callIO (i := 0) (ok__law_pick W (k + 0)) hr W.g__law_pick W.F__law_pick.kp W.b__law_pick (ses_cons se_int ses_nil) (fun _ _ h => congrArg (· + 1) ((consM_len nilM_len) _ _ h)))))) sos_nil)) (consM_len (consM_len nilM_len))))) sss_nil)
  (sss_cons (ss_asg (by decide) (se_ix' ix_idxV (mG _) ((SE.weak (se_rd 2))) (SE.o (se_callIO (i := 0) (ok__law_pick W (k + 0)) hr W.g__law_pick W.F__law_pick.kp W.b__law_pick (ses_cons (se_callB call_lenV (mGN _) W.z_len (by decide +kernel) (sos_cons (so_rd 2) sos_nil)) ses_nil) (fun _ _ h => congrArg (· + 1) ((consM_len nilM_len) _ _ h)))) (fun _ _ => rfl)) (sg_tup rfl (sgs_cons (sg_name (i := 4) sc__law_pause.nd) (sgs_cons (sg_name (i := 5) sc__law_pause.nd) sgs_nil))))
  (sss_cons (ss_set (i := 6) sc__law_pause.nd (by decide) (se_op op_addV (mG _) (SE.o (se_lc (own := [("edge", 7)]) rfl sc__law_pause.nd (si_seq (se_ix ix_idxV (mG _) (so_rd 1) (SE.o se_int) (fun _ _ => rfl))) (blkOk_by (own := [("edge", 7)]) (N := N__law_pause) (sc := defScope s__law_pause) (by decide +kernel)) (by decide) (fun _ _ _ _ _ => (sg_name (i := 7) sc__law_pause.nd)) (fun _ _ _ _ _ => (sts_one (st_cmp (op_eqV2 hu) (mG _) (SE.o (se_ix ix_idxV (mG _) (so_rd 7) (SE.o se_int) (fun _ _ => rfl))) (so_rd 4) (by rfl)))) (fun _ _ _ _ _ => (se_rd 7)))) (SE.o (se_lst (ses_cons (se_ix ix_idxV (mG _) (SE.o (se_ix ix_idxV (mG _) (so_rd 1) (SE.o se_int) (fun _ _ => rfl))) (SE.o se_int) (fun _ _ => rfl)) ses_nil)))))
  (sss_cons (ss_par (i := 7) (j := 8) rfl sc__law_pause.nd (by decide) (by decide) (by decide) (ses_cons (se_ix' ix_idxV (mG _) ((SE.weak (se_rd 6))) (SE.o (se_callIO (i := 0) (ok__law_pick W (k + 0)) hr W.g__law_pick W.F__law_pick.kp W.b__law_pick (ses_cons (se_callB call_lenV (mGN _) W.z_len (by decide +kernel) (sos_cons (so_rd 6) sos_nil)) ses_nil) (fun _ _ h => congrArg (· + 1) ((consM_len nilM_len) _ _ h)))) (fun _ _ => rfl)) (ses_cons (se_callIO (i := 0) (ok__law_pick W (k + 0)) hr W.g__law_pick W.F__law_pick.kp W.b__law_pick (ses_cons (se_ix ix_idxV (mG _) (so_rd 1) (SE.o se_int) (fun _ _ => rfl)) ses_nil) (fun _ _ h => congrArg (· + 1) ((consM_len nilM_len) _ _ h))) (SEs.weak ses_nil))))
  (sss_cons (ss_asg (by decide) (se_tup (ses_cons (se_op op_modV (mG _) (SE.o (se_ix' ix_idxV (mG _) ((SE.weak (se_ix ix_idxV (mG _) (SE.o (se_ix ix_idxV (mG _) (so_rd 7) (SE.o se_int) (fun _ _ => rfl))) (so_rd 8) (fun _ _ => rfl)))) (SE.o (se_op' op_mulV (mG _) ((SE.weak se_int)) (SE.o (se_callIO (i := 0) (ok__law_pick W (k + 0)) hr W.g__law_pick W.F__law_pick.kp W.b__law_pick (ses_cons se_int ses_nil) (fun _ _ h => congrArg (· + 1) ((consM_len nilM_len) _ _ h)))))) (fun _ _ => rfl))) (SE.o se_int)) (ses_cons ((SE.weak (se_ix ix_idxV (mG _) (so_rd 5) (so_rd 8) (fun _ _ => rfl)))) (SEs.weak ses_nil)))) (sg_tup rfl (sgs_cons (sg_name (i := 9) sc__law_pause.nd) (sgs_cons (sg_tup rfl (sgs_cons (sg_name (i := 10) sc__law_pause.nd) (sgs_cons (sg_name (i := 11) sc__law_pause.nd) sgs_nil))) sgs_nil))))
  (sss_cons (ss_if (st_cmp (op_eqV2 hu) (mG _) (so_rd 3) (SE.o se_int) (by rfl)) (sss_one (ss_ret (se_call (ok__law_low W (k + 0)) hr W.g__law_low W.F__law_low.kp W.b__law_low (sos_cons (SE.o (se_callB (call_max2V rfl) (mGN _) W.z_max (by decide +kernel) (sos_cons (SE.o se_int) (sos_cons (SE.o (se_op op_addV (mG _) (SE.o (se_op op_subV (mG _) (SE.o (se_op op_mulV (mG _) (SE.o (se_op op_mulV (mG _) (SE.o se_int) (so_rd 9))) (so_rd 11))) (SE.o (se_op op_mulV (mG _) (SE.o se_int) (so_rd 10))))) (so_rd 11))) sos_nil)))) (sos_cons (SE.o (se_op op_mulV (mG _) (SE.o se_int) (so_rd 11))) sos_nil)) (consM_len (consM_len nilM_len))))) sss_nil)
  (sss_cons (ss_if (st_cmp (op_eqV2 hu) (mG _) (so_rd 3) (SE.o se_int) (by rfl)) (sss_one (ss_ret (se_call (ok__law_low W (k + 0)) hr W.g__law_low W.F__law_low.kp W.b__law_low (sos_cons (SE.o (se_callB (call_max2V rfl) (mGN _) W.z_max (by decide +kernel) (sos_cons (SE.o se_int) (sos_cons (SE.o (se_op op_subV (mG _) (SE.o (se_op op_subV (mG _) (SE.o (se_op op_mulV (mG _) (SE.o (se_op op_mulV (mG _) (SE.o se_int) (so_rd 9))) (so_rd 11))) (SE.o (se_op op_mulV (mG _) (SE.o se_int) (so_rd 10))))) (so_rd 11))) sos_nil)))) (sos_cons (SE.o (se_op op_mulV (mG _) (SE.o se_int) (so_rd 11))) sos_nil)) (consM_len (consM_len nilM_len))))) sss_nil)
  (sss_one (ss_ret (se_call (ok__law_low W (k + 0)) hr W.g__law_low W.F__law_low.kp W.b__law_low (sos_cons (SE.o (se_callB (call_max2V rfl) (mGN _) W.z_max (by decide +kernel) (sos_cons (SE.o se_int) (sos_cons (SE.o (se_op op_subV (mG _) (SE.o (se_op op_mulV (mG _) (so_rd 9) (so_rd 11))) (so_rd 10))) sos_nil)))) (sos_cons (so_rd 11) sos_nil)) (consM_len (consM_len nilM_len)))))))))))))
theorem ok__law_kind (W : Facts K mg) (k : Nat) : FnOk P w K mg base CX0 (k + 1) W.f__law_kind W.fd__law_kind ["value"] (spM P w K 1 m__law_kind) :=
  fn_ok (k := k + 0) (B := b__law_kind) W.F__law_kind sc__law_kind rfl rfl fun cdv A outer s H E hr => by
    have hu := hu64 hr
    exact (sss_cons (ss_if ((sw_or (st_cmp op_isV (mG _) (so_rd 0) (SE.o se_non) (by rfl)) (sw_or1 (st_val (SE.o (se_isi (T := .tBool) W.z_isinstance W.z_bool (by decide +kernel) (so_rd 0)))))).pt) (sss_one (ss_ret (se_ifx (st_cmp op_isV (mG _) (so_rd 0) (SE.o se_non) (by rfl)) se_int se_int))) sss_nil)
  (sss_cons (ss_if (st_val (SE.o (se_isi2 (T1 := .tList) (T2 := .tTuple) W.z_isinstance W.z_list W.z_tuple (by decide +kernel) (by decide +kernel) (so_rd 0)))) (sss_one (ss_ret (se_ifx (st_val (SE.o (se_isi (T := .tList) W.z_isinstance W.z_list (by decide +kernel) (so_rd 0)))) se_int se_int))) sss_nil)
  (sss_one (ss_ret (se_ifx (st_val (SE.o (se_isi (T := .tInt) W.z_isinstance W.z_int (by decide +kernel) (so_rd 0)))) se_int (se_ifx (st_val (SE.o (se_isi (T := .tStr) W.z_isinstance W.z_str (by decide +kernel) (so_rd 0)))) se_int se_int))))))
theorem ok__law_twins (W : Facts K mg) : ∀ n k : Nat, FnOk P w K mg base CX0 (k + n + 2) W.f__law_twins W.fd__law_twins ["one", "other"] (spM P w K 2 (m__law_twins n))
  | 0, k => fn_ok (k := k + 1) (B := failM) W.F__law_twins sc__law_twins rfl rfl fun cdv A outer s H E hr => sss_never
  | n + 1, k => fn_ok (k := k + (n + 1) + 1) (B := b__law_twins (m__law_twins n)) W.F__law_twins sc__law_twins rfl rfl fun cdv A outer s H E hr => by
    have hu := hu64 hr
    have ih : FnOk P w K mg base CX0 (k + n + 2) W.f__law_twins W.fd__law_twins ["one", "other"] (spM P w K 2 (m__law_twins n)) := ok__law_twins W n k
    exact (sss_cons (ss_if (st_cmp (op_neV2 hu) (mG _) (SE.o (se_call (ok__law_kind W (k + n + 1)) hr W.g__law_kind W.F__law_kind.kp W.b__law_kind (sos_cons (so_rd 0) sos_nil) (consM_len nilM_len))) (SE.o (se_call (ok__law_kind W (k + n + 1)) hr W.g__law_kind W.F__law_kind.kp W.b__law_kind (sos_cons (so_rd 1) sos_nil) (consM_len nilM_len))) (by rfl)) (sss_one (ss_ret se_bl)) sss_nil)
  (sss_cons (ss_if (st_cmp (op_inV2 hu) (mG _) (SE.o (se_call (ok__law_kind W (k + n + 1)) hr W.g__law_kind W.F__law_kind.kp W.b__law_kind (sos_cons (so_rd 0) sos_nil) (consM_len nilM_len))) (SE.o (se_lst (ses_cons se_int (ses_cons se_int ses_nil)))) (by rfl)) (sss_one (ss_ret (se_and (SE.o (se_cmp (op_eqV2 hu) (mG _) (SE.o (se_callB call_lenV (mGN _) W.z_len (by decide +kernel) (sos_cons (so_rd 0) sos_nil))) (SE.o (se_callB call_lenV (mGN _) W.z_len (by decide +kernel) (sos_cons (so_rd 1) sos_nil))) (by rfl))) (se_one (se_cmp (op_eqV2 hu) (mG _) (SE.o (se_lc (own := [("a", 2), ("b", 3)]) rfl sc__law_twins.nd (si_zip W.z_zip (ses_cons (se_rd 0) (ses_cons (se_rd 1) ses_nil))) (blkOk_by (own := [("a", 2), ("b", 3)]) (N := N__law_twins) (sc := defScope s__law_twins) (by decide +kernel)) (by decide) (fun _ _ _ _ _ => (sg_tup rfl (sgs_cons (sg_name (i := 2) sc__law_twins.nd) (sgs_cons (sg_name (i := 3) sc__law_twins.nd) sgs_nil)))) (fun _ _ _ _ _ => (sts_one (st_not (st_val (SE.o (se_call ih hr W.g__law_twins W.F__law_twins.kp W.b__law_twins (sos_cons (so_rd 2) (sos_cons (so_rd 3) sos_nil)) (consM_len (consM_len nilM_len)))))))) (fun _ _ _ _ _ => se_int))) (SE.o (se_lst ses_nil)) (by rfl)))))) sss_nil)
  (sss_one (ss_ret (se_cmp (op_eqV2 hu) (mG _) (so_rd 0) (so_rd 1) (by rfl))))))
theorem ok_is_row_of (W : Facts K mg) (k : Nat) : FnOk P w K mg base CX0 (k + 1) W.f_is_row_of W.fd_is_row_of ["value", "many"] (spM P w K 2 m_is_row_of) :=
  fn_ok (k := k + 0) (B := b_is_row_of) W.F_is_row_of sc_is_row_of rfl rfl fun cdv A outer s H E hr => by
    have hu := hu64 hr
    exact (sss_one (ss_ret (se_and (SE.o (se_isi (T := .tTuple) W.z_isinstance W.z_tuple (by decide +kernel) (so_rd 0))) (se_one (se_cmp (op_eqV2 hu) (mG _) (SE.o (se_callB call_lenV (mGN _) W.z_len (by decide +kernel) (sos_cons (so_rd 0) sos_nil))) (so_rd 1) (by rfl))))))
theorem ok_is_within (W : Facts K mg) (k : Nat) : FnOk P w K mg base CX0 (k + 1) W.f_is_within W.fd_is_within ["value", "low", "high"] (spM P w K 3 m_is_within) :=
  fn_ok (k := k + 0) (B := b_is_within) W.F_is_within sc_is_within rfl rfl fun cdv A outer s H E hr => by
    have hu := hu64 hr
    exact (sss_one (ss_ret (se_and (SE.o (se_isi (T := .tInt) W.z_isinstance W.z_int (by decide +kernel) (so_rd 0))) (se_and (SE.o (se_not (SE.o (se_isi (T := .tBool) W.z_isinstance W.z_bool (by decide +kernel) (so_rd 0))))) (se_one (se_chain op_leV (mG _) op_leV (mG _) (so_rd 1) (so_rd 0) (so_rd 2)))))))
theorem ok_is_sign (W : Facts K mg) (k : Nat) : FnOk P w K mg base CX0 (k + 1) W.f_is_sign W.fd_is_sign ["value"] (spM P w K 1 m_is_sign) :=
  fn_ok (k := k + 0) (B := b_is_sign) W.F_is_sign sc_is_sign rfl rfl fun cdv A outer s H E hr => by
    have hu := hu64 hr
    exact (sss_one (ss_ret (se_and (SE.o (se_isi (T := .tStr) W.z_isinstance W.z_str (by decide +kernel) (so_rd 0))) (se_one (se_cmp (op_inV2 hu) (mG _) (so_rd 0) (SE.o (se_glb W.q_SIGNS)) (by rfl))))))
theorem ok_is_bound (W : Facts K mg) (k : Nat) : FnOk P w K mg base CX0 (k + 2) W.f_is_bound W.fd_is_bound ["value"] (spM P w K 1 m_is_bound) :=
  fn_ok (k := k + 1) (B := b_is_bound) W.F_is_bound sc_is_bound rfl rfl fun cdv A outer s H E hr => by
    have hu := hu64 hr
    exact (sss_cons (ss_if ((sw_or (st_not (st_val (SE.o (se_call (ok_is_row_of W (k + 0)) hr W.g_is_row_of W.F_is_row_of.kp W.b_is_row_of (sos_cons (so_rd 0) (sos_cons (SE.o se_int) sos_nil)) (consM_len (consM_len nilM_len)))))) (sw_or (st_not (st_val (SE.o (se_call (ok_is_within W (k + 0)) hr W.g_is_within W.F_is_within.kp W.b_is_within (sos_cons (SE.o (se_ix ix_idxV (mG _) (so_rd 0) (SE.o se_int) (fun _ _ => rfl))) (sos_cons (SE.o se_int) (sos_cons (SE.o se_int) sos_nil))) (consM_len (consM_len (consM_len nilM_len))))))) (sw_or1 (st_not (st_val (SE.o (se_call (ok_is_within W (k + 0)) hr W.g_is_within W.F_is_within.kp W.b_is_within (sos_cons (SE.o (se_ix ix_idxV (mG _) (so_rd 0) (SE.o se_int) (fun _ _ => rfl))) (sos_cons (SE.o (se_ix ix_idxV (mG _) (so_rd 0) (SE.o se_int) (fun _ _ => rfl))) (sos_cons (SE.o (se_glb W.q_FAR)) sos_nil))) (consM_len (consM_len (consM_len nilM_len)))))))))).pt) (sss_one (ss_ret se_bl)) sss_nil)
  (sss_cons (ss_if ((sw_or (st_not (st_val (SE.o (se_isi (T := .tBool) W.z_isinstance W.z_bool (by decide +kernel) (SE.o (se_ix ix_idxV (mG _) (so_rd 0) (SE.o se_int) (fun _ _ => rfl))))))) (sw_or1 (st_not (st_val (SE.o (se_isi (T := .tBool) W.z_isinstance W.z_bool (by decide +kernel) (SE.o (se_ix ix_idxV (mG _) (so_rd 0) (SE.o se_int) (fun _ _ => rfl))))))))).pt) (sss_one (ss_ret se_bl)) sss_nil)
  (sss_cons (ss_if (st_cmp (op_eqV2 hu) (mG _) (SE.o (se_ix ix_idxV (mG _) (so_rd 0) (SE.o se_int) (fun _ _ => rfl))) (SE.o (se_glb W.q_FAR)) (by rfl)) (sss_one (ss_ret (se_not (SE.o (se_ix ix_idxV (mG _) (so_rd 0) (SE.o se_int) (fun _ _ => rfl)))))) sss_nil)
  (sss_one (ss_ret (se_or (SE.o (se_cmp (op_ltV hu) (mG _) (SE.o (se_ix ix_idxV (mG _) (so_rd 0) (SE.o se_int) (fun _ _ => rfl))) (SE.o (se_ix ix_idxV (mG _) (so_rd 0) (SE.o se_int) (fun _ _ => rfl))) (by rfl))) (se_one (se_and (SE.o (se_ix ix_idxV (mG _) (so_rd 0) (SE.o se_int) (fun _ _ => rfl))) (se_one (se_ix ix_idxV (mG _) (so_rd 0) (SE.o se_int) (fun _ _ => rfl)))))))))))
theorem ok_is_edge (W : Facts K mg) (k : Nat) : FnOk P w K mg base CX0 (k + 3) W.f_is_edge W.fd_is_edge ["clocks", "value"] (spM P w K 2 m_is_edge) :=
  fn_ok (k := k + 2) (B := b_is_edge) W.F_is_edge sc_is_edge rfl rfl fun cdv A outer s H E hr => by
    have hu := hu64 hr
    exact (sss_cons (ss_if ((sw_or (st_not (st_val (SE.o (se_call (ok_is_row_of W (k + 1)) hr W.g_is_row_of W.F_is_row_of.kp W.b_is_row_of (sos_cons (so_rd 1) (sos_cons (SE.o se_int) sos_nil)) (consM_len (consM_len nilM_len)))))) (sw_or (st_not (st_val (SE.o (se_call (ok_is_within W (k + 1)) hr W.g_is_within W.F_is_within.kp W.b_is_within (sos_cons (SE.o (se_ix ix_idxV (mG _) (so_rd 1) (SE.o se_int) (fun _ _ => rfl))) (sos_cons (SE.o se_int) (sos_cons (SE.o se_int) sos_nil))) (consM_len (consM_len (consM_len nilM_len))))))) (sw_or1 (st_not (st_val (SE.o (se_call (ok_is_sign W (k + 1)) hr W.g_is_sign W.F_is_sign.kp W.b_is_sign (sos_cons (SE.o (se_ix ix_idxV (mG _) (so_rd 1) (SE.o se_int) (fun _ _ => rfl))) sos_nil) (consM_len nilM_len)))))))).pt) (sss_one (ss_ret se_bl)) sss_nil)
  (sss_cons (ss_if ((sw_or (st_not (st_val (SE.o (se_call (ok_is_row_of W (k + 1)) hr W.g_is_row_of W.F_is_row_of.kp W.b_is_row_of (sos_cons (SE.o (se_ix ix_idxV (mG _) (so_rd 1) (SE.o se_int) (fun _ _ => rfl))) (sos_cons (so_rd 0) sos_nil)) (consM_len (consM_len nilM_len)))))) (sw_or1 (st_not (st_val (SE.o (se_callB (call_allV rfl) (mGN _) W.z_all (by decide +kernel) (sos_cons (SE.o (se_lc (own := [("bound", 2)]) rfl sc_is_edge.nd (si_seq (se_ix ix_idxV (mG _) (so_rd 1) (SE.o se_int) (fun _ _ => rfl))) (blkOk_by (own := [("bound", 2)]) (N := N_is_edge) (sc := defScope s_is_edge) (by decide +kernel)) (by decide) (fun _ _ _ _ _ => (sg_name (i := 2) sc_is_edge.nd)) (fun _ _ _ _ _ => sts_nil) (fun _ _ _ _ _ => (se_call (ok_is_bound W (k + 0)) hr W.g_is_bound W.F_is_bound.kp W.b_is_bound (sos_cons (so_rd 2) sos_nil) (consM_len nilM_len))))) sos_nil))))))).pt) (sss_one (ss_ret se_bl)) sss_nil)
  (sss_cons (ss_if ((sw_or (st_not (st_val (SE.o (se_isi (T := .tTuple) W.z_isinstance W.z_tuple (by decide +kernel) (SE.o (se_ix ix_idxV (mG _) (so_rd 1) (SE.o se_int) (fun _ _ => rfl))))))) (sw_or1 (st_not (st_val (SE.o (se_callB (call_allV rfl) (mGN _) W.z_all (by decide +kernel) (sos_cons (SE.o (se_lc (own := [("clock", 3)]) rfl sc_is_edge.nd (si_seq (se_ix ix_idxV (mG _) (so_rd 1) (SE.o se_int) (fun _ _ => rfl))) (blkOk_by (own := [("clock", 3)]) (N := N_is_edge) (sc := defScope s_is_edge) (by decide +kernel)) (by decide) (fun _ _ _ _ _ => (sg_name (i := 3) sc_is_edge.nd)) (fun _ _ _ _ _ => sts_nil) (fun _ _ _ _ _ => (se_call (ok_is_within W (k + 1)) hr W.g_is_within W.F_is_within.kp W.b_is_within (sos_cons (so_rd 3) (sos_cons (SE.o se_int) (sos_cons (SE.o (se_op op_subV (mG _) (so_rd 0) (SE.o se_int))) sos_nil))) (consM_len (consM_len (consM_len nilM_len))))))) sos_nil))))))).pt) (sss_one (ss_ret se_bl)) sss_nil)
  (sss_one (ss_ret (se_and (SE.o (se_cmp (op_eqV2 hu) (mG _) (SE.o (se_callTy call_listV (mGN _) W.z_list (by decide +kernel) (sos_cons (SE.o (se_ix ix_idxV (mG _) (so_rd 1) (SE.o se_int) (fun _ _ => rfl))) sos_nil))) (SE.o (se_sortset rfl hu W.z_sorted W.z_set (SE.o (se_ix ix_idxV (mG _) (so_rd 1) (SE.o se_int) (fun _ _ => rfl))))) (by rfl))) (se_one (se_call (ok_is_within W (k + 1)) hr W.g_is_within W.F_is_within.kp W.b_is_within (sos_cons (SE.o (se_ix ix_idxV (mG _) (so_rd 1) (SE.o se_int) (fun _ _ => rfl))) (sos_cons (SE.o se_int) (sos_cons (SE.o se_int) sos_nil))) (consM_len (consM_len (consM_len nilM_len)))))))))))
theorem ok_is_machine (W : Facts K mg) (k : Nat) : FnOk P w K mg base CX0 (k + 4) W.f_is_machine W.fd_is_machine ["value"] (spM P w K 1 m_is_machine) :=
  fn_ok (k := k + 3) (B := b_is_machine) W.F_is_machine sc_is_machine rfl rfl fun cdv A outer s H E hr => by
    have hu := hu64 hr
    exact (sss_cons (ss_if ((sw_or (st_not (st_val (SE.o (se_call (ok_is_row_of W (k + 2)) hr W.g_is_row_of W.F_is_row_of.kp W.b_is_row_of (sos_cons (so_rd 0) (sos_cons (SE.o se_int) sos_nil)) (consM_len (consM_len nilM_len)))))) (sw_or (st_not (st_val (SE.o (se_call (ok_is_within W (k + 2)) hr W.g_is_within W.F_is_within.kp W.b_is_within (sos_cons (SE.o (se_ix ix_idxV (mG _) (so_rd 0) (SE.o se_int) (fun _ _ => rfl))) (sos_cons (SE.o se_int) (sos_cons (SE.o se_int) sos_nil))) (consM_len (consM_len (consM_len nilM_len))))))) (sw_or1 (st_not (st_val (SE.o (se_isi (T := .tTuple) W.z_isinstance W.z_tuple (by decide +kernel) (SE.o (se_ix ix_idxV (mG _) (so_rd 0) (SE.o se_int) (fun _ _ => rfl)))))))))).pt) (sss_one (ss_ret se_bl)) sss_nil)
  (sss_cons (ss_if ((sw_or (st_not (st_chain op_leV (mG _) op_leV (mG _) (SE.o se_int) (SE.o (se_callB call_lenV (mGN _) W.z_len (by decide +kernel) (sos_cons (SE.o (se_ix ix_idxV (mG _) (so_rd 0) (SE.o se_int) (fun _ _ => rfl))) sos_nil))) (SE.o se_int))) (sw_or1 (st_not (st_val (SE.o (se_callB (call_allV rfl) (mGN _) W.z_all (by decide +kernel) (sos_cons (SE.o (se_lc (own := [("edge", 1)]) rfl sc_is_machine.nd (si_seq (se_ix ix_idxV (mG _) (so_rd 0) (SE.o se_int) (fun _ _ => rfl))) (blkOk_by (own := [("edge", 1)]) (N := N_is_machine) (sc := defScope s_is_machine) (by decide +kernel)) (by decide) (fun _ _ _ _ _ => (sg_name (i := 1) sc_is_machine.nd)) (fun _ _ _ _ _ => sts_nil) (fun _ _ _ _ _ => (se_call (ok_is_edge W (k + 0)) hr W.g_is_edge W.F_is_edge.kp W.b_is_edge (sos_cons (SE.o (se_ix ix_idxV (mG _) (so_rd 0) (SE.o se_int) (fun _ _ => rfl))) (sos_cons (so_rd 1) sos_nil)) (consM_len (consM_len nilM_len)))))) sos_nil))))))).pt) (sss_one (ss_ret se_bl)) sss_nil)
  (sss_one (ss_ret (se_cmp (op_eqV2 hu) (mG _) (SE.o (se_callTy call_listV (mGN _) W.z_list (by decide +kernel) (sos_cons (SE.o (se_ix ix_idxV (mG _) (so_rd 0) (SE.o se_int) (fun _ _ => rfl))) sos_nil))) (SE.o (se_sortset rfl hu W.z_sorted W.z_set (SE.o (se_ix ix_idxV (mG _) (so_rd 0) (SE.o se_int) (fun _ _ => rfl))))) (by rfl))))))
theorem ok_look_at_machine (W : Facts K mg) (k : Nat) : FnOk P w K mg base CX0 (k + 5) W.f_look_at_machine W.fd_look_at_machine ["machine"] (spM P w K 1 m_look_at_machine) :=
  fn_ok (k := k + 4) (B := b_look_at_machine) W.F_look_at_machine sc_look_at_machine rfl rfl fun cdv A outer s H E hr => by
    have hu := hu64 hr
    exact (sss_one (ss_if (st_not (st_val (SE.o (se_call (ok_is_machine W (k + 0)) hr W.g_is_machine W.F_is_machine.kp W.b_is_machine (sos_cons (so_rd 0) sos_nil) (consM_len nilM_len))))) (sss_one ss_never) sss_nil))
theorem ok_common (W : Facts K mg) (k : Nat) : FnOk P w K mg base CX0 (k + 1) W.f_common W.fd_common ["one", "other"] (spM P w K 2 m_common) :=
  fn_ok (k := k + 0) (B := b_common) W.F_common sc_common rfl rfl fun cdv A outer s H E hr => by
    have hu := hu64 hr
    exact (sss_cons (ss_while PassesOwn.never (st_cmp (op_neV2 hu) (mG _) (so_rd 1) (SE.o se_int) (by rfl)) (sss_one (ss_par (i := 0) (j := 1) rfl sc_common.nd (by decide) (Nat.zero_le _) (Nat.zero_le _) (ses_cons (se_rd 1) (ses_cons (se_op op_modV (mG _) (so_rd 0) (so_rd 1)) ses_nil)))))
  (sss_one (ss_ret (se_mv 0))))
theorem ok_is_fraction (W : Facts K mg) (k : Nat) : FnOk P w K mg base CX0 (k + 2) W.f_is_fraction W.fd_is_fraction ["value"] (spM P w K 1 m_is_fraction) :=
  fn_ok (k := k + 1) (B := b_is_fraction) W.F_is_fraction sc_is_fraction rfl rfl fun cdv A outer s H E hr => by
    have hu := hu64 hr
    exact (sss_cons (ss_if ((sw_or (st_not (st_val (SE.o (se_call (ok_is_row_of W (k + 0)) hr W.g_is_row_of W.F_is_row_of.kp W.b_is_row_of (sos_cons (so_rd 0) (sos_cons (SE.o se_int) sos_nil)) (consM_len (consM_len nilM_len)))))) (sw_or1 (st_not (st_val (SE.o (se_callB (call_allV rfl) (mGN _) W.z_all (by decide +kernel) (sos_cons (SE.o (se_lc (own := [("one", 1)]) rfl sc_is_fraction.nd (si_seq (se_rd 0)) (blkOk_by (own := [("one", 1)]) (N := N_is_fraction) (sc := defScope s_is_fraction) (by decide +kernel)) (by decide) (fun _ _ _ _ _ => (sg_name (i := 1) sc_is_fraction.nd)) (fun _ _ _ _ _ => sts_nil) (fun _ _ _ _ _ => (se_and (SE.o (se_isi (T := .tInt) W.z_isinstance W.z_int (by decide +kernel) (so_rd 1))) (se_one (se_not (SE.o (se_isi (T := .tBool) W.z_isinstance W.z_bool (by decide +kernel) (so_rd 1))))))))) sos_nil))))))).pt) (sss_one (ss_ret se_bl)) sss_nil)
  (sss_one (ss_ret (se_and (SE.o (se_cmp op_geV (mG _) (SE.o (se_ix ix_idxV (mG _) (so_rd 0) (SE.o se_int) (fun _ _ => rfl))) (SE.o se_int) (by rfl))) (se_and (SE.o (se_cmp op_geV (mG _) (SE.o (se_ix ix_idxV (mG _) (so_rd 0) (SE.o se_int) (fun _ _ => rfl))) (SE.o se_int) (by rfl))) (se_one (se_cmp (op_eqV2 hu) (mG _) (SE.o (se_call (ok_common W (k + 0)) hr W.g_common W.F_common.kp W.b_common (sos_cons (SE.o (se_ix ix_idxV (mG _) (so_rd 0) (SE.o se_int) (fun _ _ => rfl))) (sos_cons (SE.o (se_ix ix_idxV (mG _) (so_rd 0) (SE.o se_int) (fun _ _ => rfl))) sos_nil)) (consM_len (consM_len nilM_len)))) (SE.o se_int) (by rfl))))))))
theorem ok_is_beat (W : Facts K mg) (k : Nat) : FnOk P w K mg base CX0 (k + 3) W.f_is_beat W.fd_is_beat ["value"] (spM P w K 1 m_is_beat) :=
  fn_ok (k := k + 2) (B := b_is_beat) W.F_is_beat sc_is_beat rfl rfl fun cdv A outer s H E hr => by
    have hu := hu64 hr
    exact (sss_one (ss_ret (se_and (SE.o (se_call (ok_is_row_of W (k + 1)) hr W.g_is_row_of W.F_is_row_of.kp W.b_is_row_of (sos_cons (so_rd 0) (sos_cons (SE.o se_int) sos_nil)) (consM_len (consM_len nilM_len)))) (se_and (SE.o (se_call (ok_is_fraction W (k + 0)) hr W.g_is_fraction W.F_is_fraction.kp W.b_is_fraction (sos_cons (SE.o (se_ix ix_idxV (mG _) (so_rd 0) (SE.o se_int) (fun _ _ => rfl))) sos_nil) (consM_len nilM_len))) (se_one (se_call (ok_is_sign W (k + 1)) hr W.g_is_sign W.F_is_sign.kp W.b_is_sign (sos_cons (SE.o (se_ix ix_idxV (mG _) (so_rd 0) (SE.o se_int) (fun _ _ => rfl))) sos_nil) (consM_len nilM_len)))))))
theorem ok_is_row (W : Facts K mg) (k : Nat) : FnOk P w K mg base CX0 (k + 4) W.f_is_row W.fd_is_row ["value"] (spM P w K 1 m_is_row) :=
  fn_ok (k := k + 3) (B := b_is_row) W.F_is_row sc_is_row rfl rfl fun cdv A outer s H E hr => by
    have hu := hu64 hr
    exact (sss_one (ss_ret (se_and (SE.o (se_isi (T := .tTuple) W.z_isinstance W.z_tuple (by decide +kernel) (so_rd 0))) (se_and (SE.o (se_cmp op_leV (mG _) (SE.o (se_callB call_lenV (mGN _) W.z_len (by decide +kernel) (sos_cons (so_rd 0) sos_nil))) (SE.o (se_glb W.q_MOST_BEATS)) (by rfl))) (se_one (se_callB (call_allV rfl) (mGN _) W.z_all (by decide +kernel) (sos_cons (SE.o (se_lc (own := [("beat", 1)]) rfl sc_is_row.nd (si_seq (se_rd 0)) (blkOk_by (own := [("beat", 1)]) (N := N_is_row) (sc := defScope s_is_row) (by decide +kernel)) (by decide) (fun _ _ _ _ _ => (sg_name (i := 1) sc_is_row.nd)) (fun _ _ _ _ _ => sts_nil) (fun _ _ _ _ _ => (se_call (ok_is_beat W (k + 0)) hr W.g_is_beat W.F_is_beat.kp W.b_is_beat (sos_cons (so_rd 1) sos_nil) (consM_len nilM_len))))) sos_nil)))))))
theorem ok_look_at_row (W : Facts K mg) (k : Nat) : FnOk P w K mg base CX0 (k + 5) W.f_look_at_row W.fd_look_at_row ["row"] (spM P w K 1 m_look_at_row) :=
  fn_ok (k := k + 4) (B := b_look_at_row) W.F_look_at_row sc_look_at_row rfl rfl fun cdv A outer s H E hr => by
    have hu := hu64 hr
    exact (sss_one (ss_if (st_not (st_val (SE.o (se_call (ok_is_row W (k + 0)) hr W.g_is_row W.F_is_row.kp W.b_is_row (sos_cons (so_rd 0) sos_nil) (consM_len nilM_len))))) (sss_one ss_never) sss_nil))
theorem ok_lowest (W : Facts K mg) (k : Nat) : FnOk P w K mg base CX0 (k + 2) W.f_lowest W.fd_lowest ["top", "below"] (spM P w K 2 m_lowest) :=
  fn_ok (k := k + 1) (B := b_lowest) W.F_lowest sc_lowest rfl rfl fun cdv A outer s H E hr => by
    have hu := hu64 hr
    exact (sss_cons (ss_set (i := 2) sc_lowest.nd (Nat.zero_le _) (se_call (ok_common W (k + 0)) hr W.g_common W.F_common.kp W.b_common (sos_cons (so_rd 0) (sos_cons (so_rd 1) sos_nil)) (consM_len (consM_len nilM_len))))
  (sss_one (ss_ret (se_tup (ses_cons (se_op op_fdivV (mG _) (so_rd 0) (so_rd 2)) (ses_cons (se_op op_fdivV (mG _) (so_rd 1) (so_rd 2)) ses_nil))))))
theorem ok_plus (W : Facts K mg) (k : Nat) : FnOk P w K mg base CX0 (k + 3) W.f_plus W.fd_plus ["one", "other"] (spM P w K 2 m_plus) :=
  fn_ok (k := k + 2) (B := b_plus) W.F_plus sc_plus rfl rfl fun cdv A outer s H E hr => by
    have hu := hu64 hr
    exact (sss_one (ss_ret (se_call (ok_lowest W (k + 0)) hr W.g_lowest W.F_lowest.kp W.b_lowest (sos_cons (SE.o (se_op op_addV (mG _) (SE.o (se_op op_mulV (mG _) (SE.o (se_ix ix_idxV (mG _) (so_rd 0) (SE.o se_int) (fun _ _ => rfl))) (SE.o (se_ix ix_idxV (mG _) (so_rd 1) (SE.o se_int) (fun _ _ => rfl))))) (SE.o (se_op op_mulV (mG _) (SE.o (se_ix ix_idxV (mG _) (so_rd 1) (SE.o se_int) (fun _ _ => rfl))) (SE.o (se_ix ix_idxV (mG _) (so_rd 0) (SE.o se_int) (fun _ _ => rfl))))))) (sos_cons (SE.o (se_op op_mulV (mG _) (SE.o (se_ix ix_idxV (mG _) (so_rd 0) (SE.o se_int) (fun _ _ => rfl))) (SE.o (se_ix ix_idxV (mG _) (so_rd 1) (SE.o se_int) (fun _ _ => rfl))))) sos_nil)) (consM_len (consM_len nilM_len)))))
theorem ok_keeps (W : Facts K mg) (k : Nat) : FnOk P w K mg base CX0 (k + 1) W.f_keeps W.fd_keeps ["value", "bound"] (spM P w K 2 m_keeps) :=
  fn_ok (k := k + 0) (B := b_keeps) W.F_keeps sc_keeps rfl rfl fun cdv A outer s H E hr => by
    have hu := hu64 hr
    exact (sss_cons (ss_asg (fun _ _ => Nat.zero_le _) (se_rd 1) (sg_tup rfl (sgs_cons (sg_name (i := 2) sc_keeps.nd) (sgs_cons (sg_name (i := 3) sc_keeps.nd) (sgs_cons (sg_name (i := 4) sc_keeps.nd) (sgs_cons (sg_name (i := 5) sc_keeps.nd) sgs_nil))))))
  (sss_cons (ss_par (i := 6) (j := 7) rfl sc_keeps.nd (by decide) (Nat.zero_le _) (Nat.zero_le _) (ses_cons (se_op op_subV (mG _) (SE.o (se_ix ix_idxV (mG _) (so_rd 0) (SE.o se_int) (fun _ _ => rfl))) (SE.o (se_op op_mulV (mG _) (so_rd 2) (SE.o (se_ix ix_idxV (mG _) (so_rd 0) (SE.o se_int) (fun _ _ => rfl)))))) (ses_cons (se_op op_subV (mG _) (SE.o (se_op op_mulV (mG _) (so_rd 4) (SE.o (se_ix ix_idxV (mG _) (so_rd 0) (SE.o se_int) (fun _ _ => rfl))))) (SE.o (se_ix ix_idxV (mG _) (so_rd 0) (SE.o se_int) (fun _ _ => rfl)))) ses_nil)))
  (sss_cons (ss_if ((sw_or (st_cmp (op_ltV hu) (mG _) (so_rd 6) (SE.o se_int) (by rfl)) (sw_or1 ((sw_and (st_cmp (op_eqV2 hu) (mG _) (so_rd 6) (SE.o se_int) (by rfl)) (sw_and1 (st_not (st_val (so_rd 3))))).pt))).pt) (sss_one (ss_ret se_bl)) sss_nil)
  (sss_one (ss_ret (se_or (SE.o (se_cmp (op_eqV2 hu) (mG _) (so_rd 4) (SE.o (se_glb W.q_FAR)) (by rfl))) (se_or (SE.o (se_cmp op_gtV (mG _) (so_rd 7) (SE.o se_int) (by rfl))) (se_one (se_and (SE.o (se_cmp (op_eqV2 hu) (mG _) (so_rd 7) (SE.o se_int) (by rfl))) (se_one (se_rd 5)))))))))))
theorem ok_behind (W : Facts K mg) (k : Nat) : FnOk P w K mg base CX0 (k + 4) W.f_behind W.fd_behind ["machine", "stands", "beat"] (spM P w K 3 m_behind) :=
  fn_ok (k := k + 3) (B := b_behind) W.F_behind sc_behind rfl rfl fun cdv A outer s H E hr => by
    have hu := hu64 hr
    exact (sss_cons (ss_asg (fun _ _ => Nat.zero_le _) (se_rd 2) (sg_tup rfl (sgs_cons (sg_name (i := 3) sc_behind.nd) (sgs_cons (sg_name (i := 4) sc_behind.nd) sgs_nil))))
  (sss_cons (ss_set (i := 5) sc_behind.nd (Nat.zero_le _) (se_lst ses_nil))
  (sss_cons (ss_for PassesOwn.never rfl (fun _ _ => Nat.zero_le _) (si_seq (se_rd 1)) (sg_tup rfl (sgs_cons (sg_name (i := 6) sc_behind.nd) (sgs_cons (sg_name (i := 7) sc_behind.nd) sgs_nil))) (sss_cons (ss_set (i := 7) sc_behind.nd (Nat.zero_le _) (se_callTy call_tupleV (mGN _) W.z_tuple (by decide +kernel) (sos_cons (SE.o (se_lc (own := [("value", 10)]) rfl sc_behind.nd (si_seq (se_rd 7)) (blkOk_by (own := [("value", 10)]) (N := N_behind) (sc := defScope s_behind) (by decide +kernel)) (by decide) (fun _ _ _ _ _ => (sg_name (i := 10) sc_behind.nd)) (fun _ _ _ _ _ => sts_nil) (fun _ _ _ _ _ => (se_call (ok_plus W (k + 0)) hr W.g_plus W.F_plus.kp W.b_plus (sos_cons (so_rd 10) (sos_cons (so_rd 3) sos_nil)) (consM_len (consM_len nilM_len)))))) sos_nil)))
  (sss_one (ss_for PassesOwn.never rfl (fun _ _ => Nat.zero_le _) (si_seq (se_ix ix_idxV (mG _) (so_rd 0) (SE.o se_int) (fun _ _ => rfl))) (sg_name (i := 8) sc_behind.nd) (sss_one (ss_if ((sw_and (st_cmp (op_eqV2 hu) (mG _) (SE.o (se_slice (so_rd 8) sp_none (sp_some (SE.o se_int)))) (SE.o (se_tup (ses_cons (se_rd 6) (ses_cons (se_rd 4) ses_nil)))) (by rfl)) (sw_and1 (st_val (SE.o (se_callB (call_allV rfl) (mGN _) W.z_all (by decide +kernel) (sos_cons (SE.o (se_lc (own := [("value", 10), ("bound", 12)]) rfl sc_behind.nd (si_zip W.z_zip (ses_cons (se_rd 7) (ses_cons (se_ix ix_idxV (mG _) (so_rd 8) (SE.o se_int) (fun _ _ => rfl)) ses_nil))) (blkOk_by (own := [("value", 10), ("bound", 12)]) (N := N_behind) (sc := defScope s_behind) (by decide +kernel)) (by decide) (fun _ _ _ _ _ => (sg_tup rfl (sgs_cons (sg_name (i := 10) sc_behind.nd) (sgs_cons (sg_name (i := 12) sc_behind.nd) sgs_nil)))) (fun _ _ _ _ _ => sts_nil) (fun _ _ _ _ _ => (se_call (ok_keeps W (k + 2)) hr W.g_keeps W.F_keeps.kp W.b_keeps (sos_cons (so_rd 10) (sos_cons (so_rd 12) sos_nil)) (consM_len (consM_len nilM_len)))))) sos_nil)))))).pt) (sss_cons (ss_setLcF (i := 9) (own := [("clock", 11), ("value", 10)]) rfl sc_behind.nd (Nat.zero_le _) (si_enum W.z_enumerate (se_rd 7)) (blkOk_by (own := [("clock", 11), ("value", 10)]) (N := N_behind) (sc := defScope s_behind) (by decide +kernel)) (by decide) (fun _ _ _ _ _ => (sg_tup rfl (sgs_cons (sg_name (i := 11) sc_behind.nd) (sgs_cons (sg_name (i := 10) sc_behind.nd) sgs_nil)))) (fun _ _ _ _ _ => sts_nil) (fun _ _ _ _ _ => (se_ifx (st_cmp (op_inV2 hu) (mG _) (so_rd 11) (SE.o (se_ix ix_idxV (mG _) (so_rd 8) (SE.o se_int) (fun _ _ => rfl))) (by rfl)) (se_glb W.q_NOUGHT) (se_rd 10))))
  (sss_one (ss_append (i := 5) (se_tup (ses_cons (se_ix ix_idxV (mG _) (so_rd 8) (SE.o se_int) (fun _ _ => rfl)) (ses_cons (se_callTy call_tupleV (mGN _) W.z_tuple (by decide +kernel) (sos_cons (so_rd 9) sos_nil)) ses_nil)))))) sss_nil))))))
  (sss_one (ss_ret (se_sortset rfl hu W.z_sorted W.z_set (so_rd 5)))))))
theorem ok_stands_by (W : Facts K mg) (k : Nat) : FnOk P w K mg base CX0 (k + 5) W.f_stands_by W.fd_stands_by ["machine", "stands", "row"] (spM P w K 3 m_stands_by) :=
  fn_ok (k := k + 4) (B := b_stands_by) W.F_stands_by sc_stands_by rfl rfl fun cdv A outer s H E hr => by
    have hu := hu64 hr
    exact (sss_cons (ss_for PassesOwn.never rfl (fun _ _ => Nat.zero_le _) (si_seq (se_rd 2)) (sg_name (i := 3) sc_stands_by.nd) (sss_one (ss_set (i := 1) sc_stands_by.nd (Nat.zero_le _) (se_frz (se_call (ok_behind W (k + 0)) hr W.g_behind W.F_behind.kp W.b_behind (sos_cons (so_rd 0) (sos_cons (so_rd 1) (sos_cons (so_rd 3) sos_nil))) (consM_len (consM_len (consM_len nilM_len))))))))
  (sss_one (ss_ret (se_mv 1))))
theorem ok_begin_of (W : Facts K mg) (k : Nat) : FnOk P w K mg base CX0 (k + 1) W.f_begin_of W.fd_begin_of ["machine"] (spM P w K 1 m_begin_of) :=
  fn_ok (k := k + 0) (B := b_begin_of) W.F_begin_of sc_begin_of rfl rfl fun cdv A outer s H E hr => by
    have hu := hu64 hr
    exact (sss_one (ss_ret (se_tup (ses_cons se_int (ses_cons (se_op op_mulV (mG _) (SE.o (se_tup (ses_cons (se_glb W.q_NOUGHT) ses_nil))) (SE.o (se_ix ix_idxV (mG _) (so_rd 0) (SE.o se_int) (fun _ _ => rfl)))) ses_nil)))))
theorem ok_stands_behind (W : Facts K mg) (k : Nat) : FnOk P w K mg base CX0 (k + 6) W.f_stands_behind W.fd_stands_behind ["machine", "row"] (spM P w K 2 m_stands_behind) :=
  fn_ok (k := k + 5) (B := b_stands_behind) W.F_stands_behind sc_stands_behind rfl rfl fun cdv A outer s H E hr => by
    have hu := hu64 hr
    exact (sss_cons (ss_expr (SE.o (se_call (ok_look_at_machine W (k + 0)) hr W.g_look_at_machine W.F_look_at_machine.kp W.b_look_at_machine (sos_cons (so_rd 0) sos_nil) (consM_len nilM_len))))
  (sss_cons (ss_expr (SE.o (se_call (ok_look_at_row W (k + 0)) hr W.g_look_at_row W.F_look_at_row.kp W.b_look_at_row (sos_cons (so_rd 1) sos_nil) (consM_len nilM_len))))
  (sss_one (ss_ret (se_call (ok_stands_by W (k + 0)) hr W.g_stands_by W.F_stands_by.kp W.b_stands_by (sos_cons (so_rd 0) (sos_cons (SE.o (se_frz (se_lst (ses_cons (se_call (ok_begin_of W (k + 4)) hr W.g_begin_of W.F_begin_of.kp W.b_begin_of (sos_cons (so_rd 0) sos_nil) (consM_len nilM_len)) ses_nil)))) (sos_cons (so_rd 1) sos_nil))) (consM_len (consM_len (consM_len nilM_len))))))))
theorem ok_moment_of (W : Facts K mg) (k : Nat) : FnOk P w K mg base CX0 (k + 4) W.f_moment_of W.fd_moment_of ["row"] (spM P w K 1 m_moment_of) :=
  fn_ok (k := k + 3) (B := b_moment_of) W.F_moment_of sc_moment_of rfl rfl fun cdv A outer s H E hr => by
    have hu := hu64 hr
    exact (sss_cons (ss_set (i := 1) sc_moment_of.nd (Nat.zero_le _) (se_glb W.q_NOUGHT))
  (sss_cons (ss_for PassesOwn.never rfl (fun _ _ => Nat.zero_le _) (si_seq (se_rd 0)) (sg_tup rfl (sgs_cons (sg_name (i := 2) sc_moment_of.nd) (sgs_cons (sg_name (i := 3) sc_moment_of.nd) sgs_nil))) (sss_one (ss_set (i := 1) sc_moment_of.nd (Nat.zero_le _) (se_call (ok_plus W (k + 0)) hr W.g_plus W.F_plus.kp W.b_plus (sos_cons (so_rd 1) (sos_cons (so_rd 2) sos_nil)) (consM_len (consM_len nilM_len))))))
  (sss_one (ss_ret (se_mv 1)))))
theorem ok_moment (W : Facts K mg) (k : Nat) : FnOk P w K mg base CX0 (k + 6) W.f_moment W.fd_moment ["row"] (spM P w K 1 m_moment) :=
  fn_ok (k := k + 5) (B := b_moment) W.F_moment sc_moment rfl rfl fun cdv A outer s H E hr => by
    have hu := hu64 hr
    exact (sss_cons (ss_expr (SE.o (se_call (ok_look_at_row W (k + 0)) hr W.g_look_at_row W.F_look_at_row.kp W.b_look_at_row (sos_cons (so_rd 0) sos_nil) (consM_len nilM_len))))
  (sss_one (ss_ret (se_call (ok_moment_of W (k + 1)) hr W.g_moment_of W.F_moment_of.kp W.b_moment_of (sos_cons (so_rd 0) sos_nil) (consM_len nilM_len)))))
theorem ok__law_total (W : Facts K mg) (k : Nat) : FnOk P w K mg base CX0 (k + 3) W.f__law_total W.fd__law_total ["row"] (spM P w K 1 m__law_total) :=
  fn_ok (k := k + 2) (B := b__law_total) W.F__law_total sc__law_total rfl rfl fun cdv A outer s H E hr => by
    have hu := hu64 hr
    exact (sss_cons (ss_set (i := 1) sc__law_total.nd (Nat.zero_le _) (se_tup (ses_cons se_int (ses_cons se_int ses_nil))))
  (sss_cons (ss_for PassesOwn.never rfl (fun _ _ => Nat.zero_le _) (si_seq (se_rd 0)) (sg_tup rfl (sgs_cons (sg_name (i := 2) sc__law_total.nd) (sgs_cons (sg_name (i := 3) sc__law_total.nd) sgs_nil))) (sss_one (ss_set (i := 1) sc__law_total.nd (Nat.zero_le _) (se_call (ok__law_plus W (k + 0)) hr W.g__law_plus W.F__law_plus.kp W.b__law_plus (sos_cons (so_rd 1) (sos_cons (so_rd 2) sos_nil)) (consM_len (consM_len nilM_len))))))
  (sss_one (ss_ret (se_mv 1)))))
theorem ok_look_at_stand (W : Facts K mg) (k : Nat) : FnOk P w K mg base CX0 (k + 3) W.f_look_at_stand W.fd_look_at_stand ["machine", "stand"] (spM P w K 2 m_look_at_stand) :=
  fn_ok (k := k + 2) (B := b_look_at_stand) W.F_look_at_stand sc_look_at_stand rfl rfl fun cdv A outer s H E hr => by
    have hu := hu64 hr
    exact (sss_cons (ss_set (i := 2) sc_look_at_stand.nd (Nat.zero_le _) (se_and (SE.o (se_call (ok_is_row_of W (k + 1)) hr W.g_is_row_of W.F_is_row_of.kp W.b_is_row_of (sos_cons (so_rd 1) (sos_cons (SE.o se_int) sos_nil)) (consM_len (consM_len nilM_len)))) (se_and (SE.o (se_call (ok_is_within W (k + 1)) hr W.g_is_within W.F_is_within.kp W.b_is_within (sos_cons (SE.o (se_ix ix_idxV (mG _) (so_rd 1) (SE.o se_int) (fun _ _ => rfl))) (sos_cons (SE.o se_int) (sos_cons (SE.o se_int) sos_nil))) (consM_len (consM_len (consM_len nilM_len))))) (se_one (se_call (ok_is_row_of W (k + 1)) hr W.g_is_row_of W.F_is_row_of.kp W.b_is_row_of (sos_cons (SE.o (se_ix ix_idxV (mG _) (so_rd 1) (SE.o se_int) (fun _ _ => rfl))) (sos_cons (SE.o (se_ix ix_idxV (mG _) (so_rd 0) (SE.o se_int) (fun _ _ => rfl))) sos_nil)) (consM_len (consM_len nilM_len)))))))
  (sss_one (ss_if ((sw_or (st_not (st_val (so_rd 2))) (sw_or1 (st_not (st_val (SE.o (se_callB (call_allV rfl) (mGN _) W.z_all (by decide +kernel) (sos_cons (SE.o (se_lc (own := [("one", 3)]) rfl sc_look_at_stand.nd (si_seq (se_ix ix_idxV (mG _) (so_rd 1) (SE.o se_int) (fun _ _ => rfl))) (blkOk_by (own := [("one", 3)]) (N := N_look_at_stand) (sc := defScope s_look_at_stand) (by decide +kernel)) (by decide) (fun _ _ _ _ _ => (sg_name (i := 3) sc_look_at_stand.nd)) (fun _ _ _ _ _ => sts_nil) (fun _ _ _ _ _ => (se_call (ok_is_fraction W (k + 0)) hr W.g_is_fraction W.F_is_fraction.kp W.b_is_fraction (sos_cons (so_rd 3) sos_nil) (consM_len nilM_len))))) sos_nil))))))).pt) (sss_one ss_never) sss_nil)))
theorem ok_after (W : Facts K mg) (k : Nat) : FnOk P w K mg base CX0 (k + 6) W.f_after W.fd_after ["machine", "stand", "beat"] (spM P w K 3 m_after) :=
  fn_ok (k := k + 5) (B := b_after) W.F_after sc_after rfl rfl fun cdv A outer s H E hr => by
    have hu := hu64 hr
    exact (sss_cons (ss_expr (SE.o (se_call (ok_look_at_machine W (k + 0)) hr W.g_look_at_machine W.F_look_at_machine.kp W.b_look_at_machine (sos_cons (so_rd 0) sos_nil) (consM_len nilM_len))))
  (sss_cons (ss_expr (SE.o (se_call (ok_look_at_stand W (k + 2)) hr W.g_look_at_stand W.F_look_at_stand.kp W.b_look_at_stand (sos_cons (so_rd 0) (sos_cons (so_rd 1) sos_nil)) (consM_len (consM_len nilM_len)))))
  (sss_cons (ss_if (st_not (st_val (SE.o (se_call (ok_is_beat W (k + 2)) hr W.g_is_beat W.F_is_beat.kp W.b_is_beat (sos_cons (so_rd 2) sos_nil) (consM_len nilM_len))))) (sss_one ss_never) sss_nil)
  (sss_one (ss_ret (se_call (ok_behind W (k + 1)) hr W.g_behind W.F_behind.kp W.b_behind (sos_cons (so_rd 0) (sos_cons (SE.o (se_frz (se_lst (ses_cons (se_rd 1) ses_nil)))) (sos_cons (so_rd 2) sos_nil))) (consM_len (consM_len (consM_len nilM_len)))))))))
theorem ok_law (W : Facts K mg) (k : Nat) : FnOk P w K mg base CX0 (k + 11) W.f_law W.fd_law ["script"] (spM P w K 1 m_law) :=
  fn_ok (k := k + 10) (B := b_law) W.F_law sc_law rfl rfl fun cdv A outer s H E hr => by
    have hu := hu64 hr
    exact (sss_cons (ss_for PassesOwn.never rfl (fun _ _ => Nat.zero_le _) (si_rng1 W.z_range (sos_cons (SE.o (se_op op_addV (mG _) (SE.o (se_callB (call_min2V rfl) (mGN _) W.z_min (by decide +kernel) (sos_cons (SE.o (se_callB call_lenV (mGN _) W.z_len (by decide +kernel) (sos_cons (so_rd 0) sos_nil))) (sos_cons (SE.o se_int) sos_nil)))) (SE.o se_int))) sos_nil)) (sg_name (i := 1) sc_law.nd) (sss_cons (ss_set (i := 2) sc_law.nd (Nat.zero_le _) (se_call (ok__law_spring W (k + 9)) hr W.g__law_spring W.F__law_spring.kp W.b__law_spring (sos_cons (so_rd 0) (sos_cons (so_rd 1) sos_nil)) (consM_len (consM_len nilM_len))))
  (sss_cons (ss_par (i := 3) (j := 4) rfl sc_law.nd (by decide) (Nat.zero_le _) (Nat.zero_le _) (ses_cons (se_callIO (i := 2) (ok__law_machine W (k + 6)) hr W.g__law_machine W.F__law_machine.kp W.b__law_machine (ses_cons se_int ses_nil) (fun _ _ h => congrArg (· + 1) ((consM_len nilM_len) _ _ h))) (ses_cons ((SE.weak (se_tup ses_nil))) (SEs.weak ses_nil))))
  (sss_cons (ss_set (i := 5) sc_law.nd (Nat.zero_le _) (se_call (ok__law_run W (k + 6)) hr W.g__law_run W.F__law_run.kp W.b__law_run (sos_cons (so_rd 3) (sos_cons (SE.o (se_tup ses_nil)) sos_nil)) (consM_len (consM_len nilM_len))))
  (sss_cons (ss_for PassesOwn.never rfl (fun _ _ => Nat.zero_le _) (si_rng1 W.z_range (sos_cons (SE.o (se_callIO (i := 2) (ok__law_pick W (k + 9)) hr W.g__law_pick W.F__law_pick.kp W.b__law_pick (ses_cons se_int ses_nil) (fun _ _ h => congrArg (· + 1) ((consM_len nilM_len) _ _ h)))) sos_nil)) (sg_name (i := 6) sc_law.nd) (sss_cons (ss_set (i := 7) sc_law.nd (Nat.zero_le _) (se_callIO (i := 2) (ok__law_pause W (k + 8)) hr W.g__law_pause W.F__law_pause.kp W.b__law_pause (ses_cons (se_rd 3) (ses_cons (se_rd 5) ses_nil)) (fun _ _ h => congrArg (· + 1) ((consM_len (consM_len nilM_len)) _ _ h))))
  (sss_cons (ss_set (i := 8) sc_law.nd (Nat.zero_le _) (se_op op_addV (mG _) (SE.o (se_lc (own := [("place", 13), ("values", 14)]) rfl sc_law.nd (si_seq (se_rd 5)) (blkOk_by (own := [("place", 13), ("values", 14)]) (N := N_law) (sc := defScope s_law) (by decide +kernel)) (by decide) (fun _ _ _ _ _ => (sg_tup rfl (sgs_cons (sg_name (i := 13) sc_law.nd) (sgs_cons (sg_name (i := 14) sc_law.nd) sgs_nil)))) (fun _ _ _ _ _ => sts_nil) (fun _ _ _ _ _ => (se_rd 13)))) (SE.o (se_lst (ses_cons se_int ses_nil)))))
  (sss_cons (ss_set (i := 9) sc_law.nd (Nat.zero_le _) (se_op op_addV (mG _) (SE.o (se_lc (own := [("edge", 15)]) rfl sc_law.nd (si_seq (se_ix ix_idxV (mG _) (so_rd 3) (SE.o se_int) (fun _ _ => rfl))) (blkOk_by (own := [("edge", 15)]) (N := N_law) (sc := defScope s_law) (by decide +kernel)) (by decide) (fun _ _ _ _ _ => (sg_name (i := 15) sc_law.nd)) (fun _ _ _ _ _ => (sts_one (st_cmp (op_inV2 hu) (mG _) (SE.o (se_ix ix_idxV (mG _) (so_rd 15) (SE.o se_int) (fun _ _ => rfl))) (so_rd 8) (by rfl)))) (fun _ _ _ _ _ => (se_ix ix_idxV (mG _) (so_rd 15) (SE.o se_int) (fun _ _ => rfl))))) (SE.o (se_lst (ses_cons se_str ses_nil)))))
  (sss_cons (ss_set (i := 10) sc_law.nd (Nat.zero_le _) (se_tup (ses_cons ((SE.weak (se_rd 7))) (ses_cons (se_ix' ix_idxV (mG _) ((SE.weak (se_rd 9))) (SE.o (se_callIO (i := 2) (ok__law_pick W (k + 9)) hr W.g__law_pick W.F__law_pick.kp W.b__law_pick (ses_cons (se_callB call_lenV (mGN _) W.z_len (by decide +kernel) (sos_cons (so_rd 9) sos_nil)) ses_nil) (fun _ _ h => congrArg (· + 1) ((consM_len nilM_len) _ _ h)))) (fun _ _ => rfl)) (SEs.weak ses_nil)))))
  (sss_cons (ss_for PassesOwn.never rfl (fun _ _ => Nat.zero_le _) (si_seq (se_slice (so_rd 5) sp_none (sp_some (SE.o se_int)))) (sg_name (i := 11) sc_law.nd) (sss_one (ss_if (st_not (st_val (SE.o (se_call (ok__law_twins W 8 (k + 0)) hr W.g__law_twins W.F__law_twins.kp W.b__law_twins (sos_cons (SE.o (se_call (ok_after W (k + 4)) hr W.g_after W.F_after.kp W.b_after (sos_cons (so_rd 3) (sos_cons (so_rd 11) (sos_cons (so_rd 10) sos_nil))) (consM_len (consM_len (consM_len nilM_len))))) (sos_cons (SE.o (se_call (ok__law_behind W (k + 7)) hr W.g__law_behind W.F__law_behind.kp W.b__law_behind (sos_cons (so_rd 3) (sos_cons (SE.o (se_lst (ses_cons (se_rd 11) ses_nil))) (sos_cons (so_rd 10) sos_nil))) (consM_len (consM_len (consM_len nilM_len))))) sos_nil)) (consM_len (consM_len nilM_len)))))) (sss_one (ss_ret se_bl)) sss_nil)))
  (sss_cons (ss_set (i := 12) sc_law.nd (Nat.zero_le _) (se_call (ok__law_behind W (k + 7)) hr W.g__law_behind W.F__law_behind.kp W.b__law_behind (sos_cons (so_rd 3) (sos_cons (so_rd 5) (sos_cons (so_rd 10) sos_nil))) (consM_len (consM_len (consM_len nilM_len)))))
  (sss_one (ss_if ((sw_or ((ST.weak (st_cmp (op_neV2 hu) (mG _) (so_rd 12) (SE.o (se_lst ses_nil)) (by rfl)))) (sw_or1 (st_cmp (op_eqV2 hu) (mG _) (SE.o (se_callIO (i := 2) (ok__law_pick W (k + 9)) hr W.g__law_pick W.F__law_pick.kp W.b__law_pick (ses_cons se_int ses_nil) (fun _ _ h => congrArg (· + 1) ((consM_len nilM_len) _ _ h)))) (SE.o se_int) (by rfl)))).pt) (sss_one (ss_par (i := 5) (j := 4) rfl sc_law.nd (by decide) (Nat.zero_le _) (Nat.zero_le _) (ses_cons (se_rd 12) (ses_cons (se_op op_addV (mG _) (so_rd 4) (SE.o (se_tup (ses_cons (se_rd 10) ses_nil)))) ses_nil)))) sss_nil)))))))))
  (sss_one (ss_if (st_not (st_val (SE.o (se_call (ok__law_twins W 8 (k + 0)) hr W.g__law_twins W.F__law_twins.kp W.b__law_twins (sos_cons (SE.o (se_lst (ses_cons (se_call (ok_stands_behind W (k + 4)) hr W.g_stands_behind W.F_stands_behind.kp W.b_stands_behind (sos_cons (so_rd 3) (sos_cons (so_rd 4) sos_nil)) (consM_len (consM_len nilM_len))) (ses_cons (se_call (ok_moment W (k + 4)) hr W.g_moment W.F_moment.kp W.b_moment (sos_cons (so_rd 4) sos_nil) (consM_len nilM_len)) ses_nil)))) (sos_cons (SE.o (se_lst (ses_cons (se_call (ok__law_run W (k + 6)) hr W.g__law_run W.F__law_run.kp W.b__law_run (sos_cons (so_rd 3) (sos_cons (so_rd 4) sos_nil)) (consM_len (consM_len nilM_len))) (ses_cons (se_call (ok__law_total W (k + 7)) hr W.g__law_total W.F__law_total.kp W.b__law_total (sos_cons (so_rd 4) sos_nil) (consM_len nilM_len)) ses_nil)))) sos_nil)) (consM_len (consM_len nilM_len)))))) (sss_one (ss_ret se_bl)) sss_nil)))))))
  (sss_one (ss_ret se_bl)))
end
end LW
end

section
set_option maxHeartbeats 4000000
/-! the plain defs (printed by gx.py) -/
namespace RP
open MV PySem
abbrev Frac : Type := (Int × Int)
set_option synthInstance.maxSize 4000 in
instance dec_Frac : DecidableEq Frac := inferInstance
def eFrac : Frac → Val := (e2 Val.int Val.int)
theorem ep_Frac : EP eFrac := (ep_2 ep_i ep_i)
theorem ek_Frac : EK eFrac 1 := (ek_2 ek_i ek_i)
theorem er_Frac : ER eFrac := (er_2 (ek_2 ek_i ek_i) (by decide))
abbrev Bound : Type := (Int × Bool × Int × Bool)
set_option synthInstance.maxSize 4000 in
instance dec_Bound : DecidableEq Bound := inferInstance
def eBound : Bound → Val := (e4 Val.int Val.bl Val.int Val.bl)
theorem ep_Bound : EP eBound := (ep_4 ep_i ep_b ep_i ep_b)
theorem ek_Bound : EK eBound 1 := (ek_4 ek_i ek_b ek_i ek_b)
theorem er_Bound : ER eBound := (er_4 (ek_4 ek_i ek_b ek_i ek_b) (by decide))
abbrev Edge : Type := (Int × Sg × (List Bound) × (List Int) × Int)
set_option synthInstance.maxSize 4000 in
instance dec_Edge : DecidableEq Edge := inferInstance
def eEdge : Edge → Val := (e5 Val.int eSg (eT eBound) (eT Val.int) Val.int)
theorem ep_Edge : EP eEdge := (ep_5 ep_i ep_sg (ep_T ep_Bound) (ep_T ep_i) ep_i)
theorem ek_Edge : EK eEdge 3 := (ek_5 (ek_i.mono (by decide)) (ek_sg.mono (by decide)) (ek_T ek_Bound) ((ek_T ek_i).mono (by decide)) (ek_i.mono (by decide)))
theorem er_Edge : ER eEdge := (er_5 (ek_5 (ek_i.mono (by decide)) (ek_sg.mono (by decide)) (ek_T ek_Bound) ((ek_T ek_i).mono (by decide)) (ek_i.mono (by decide))) (by decide))
abbrev Mach : Type := (Int × (List Edge))
set_option synthInstance.maxSize 4000 in
instance dec_Mach : DecidableEq Mach := inferInstance
def eMach : Mach → Val := (e2 Val.int (eT eEdge))
theorem ep_Mach : EP eMach := (ep_2 ep_i (ep_T ep_Edge))
theorem ek_Mach : EK eMach 5 := (ek_2 (ek_i.mono (by decide)) (ek_T ek_Edge))
theorem er_Mach : ER eMach := (er_2 (ek_2 (ek_i.mono (by decide)) (ek_T ek_Edge)) (by decide))
abbrev Stand : Type := (Int × (List Frac))
set_option synthInstance.maxSize 4000 in
instance dec_Stand : DecidableEq Stand := inferInstance
def eStand : Stand → Val := (e2 Val.int (eT eFrac))
theorem ep_Stand : EP eStand := (ep_2 ep_i (ep_T ep_Frac))
theorem ek_Stand : EK eStand 3 := (ek_2 (ek_i.mono (by decide)) (ek_T ek_Frac))
theorem er_Stand : ER eStand := (er_2 (ek_2 (ek_i.mono (by decide)) (ek_T ek_Frac)) (by decide))
abbrev Beat : Type := (Frac × Sg)
set_option synthInstance.maxSize 4000 in
instance dec_Beat : DecidableEq Beat := inferInstance
def eBeat : Beat → Val := (e2 eFrac eSg)
theorem ep_Beat : EP eBeat := (ep_2 ep_Frac ep_sg)
theorem ek_Beat : EK eBeat 2 := (ek_2 ek_Frac (ek_sg.mono (by decide)))
theorem er_Beat : ER eBeat := (er_2 (ek_2 ek_Frac (ek_sg.mono (by decide))) (by decide))
noncomputable def c__law_low_1 (top : Int) (below : Int) (s : (Int × Int))  : (Int × Int) → Bool :=
  fun s1 => (!decide (s1.2 = (0 : Int)))
noncomputable def n__law_low_2 (top : Int) (below : Int) (s : (Int × Int))  : (Int × Int) → (Int × Int) :=
  fun s1 => (LetW (s1.2, (s1.1 % s1.2)) fun (s2 : (Int × Int)) => (s2.1, s2.2))
noncomputable def d__law_low_3 (top : Int) (below : Int) (s : (Int × Int))  : (Int × Int) → Prop :=
  fun s1 => ((!decide (s1.2 = (0 : Int))) = true → (0 < s1.2))
noncomputable def n__law_low (top : Int) (below : Int) : Frac :=
  (LetW (top, below) fun (s : (Int × Int)) => (LetW (whileV (c__law_low_1 top below s) (n__law_low_2 top below s) (s.1, s.2)) fun (s1 : (Int × Int)) => ((top / s1.1), (below / s1.1))))
def d__law_low (top : Int) (below : Int) : Prop :=
  (LetC (top, below) fun (s : (Int × Int)) => (DWhile (c__law_low_1 top below s) (n__law_low_2 top below s) (d__law_low_3 top below s) (s.1, s.2)) ∧ (LetC (whileV (c__law_low_1 top below s) (n__law_low_2 top below s) (s.1, s.2)) fun (s1 : (Int × Int)) => (divOk s1.1) ∧ (divOk s1.1)))
noncomputable def n__law_plus (one : Frac) (other : Frac) : Frac :=
  (n__law_low ((one.1 * other.2) + (other.1 * one.2)) (one.2 * other.2))
def d__law_plus (one : Frac) (other : Frac) : Prop :=
  (mulOk one.1 other.2 = true) ∧ (mulOk other.1 one.2 = true) ∧ (mulOk one.2 other.2 = true) ∧ (d__law_low ((one.1 * other.2) + (other.1 * one.2)) (one.2 * other.2))
noncomputable def n__law_kept (value : Frac) (bound : Bound) : Bool :=
  (LetW value fun (u : Frac) => (LetW bound fun (u1 : Bound) => (cond ((decide (u.1 < (u1.1 * u.2))) || ((decide (u.1 = (u1.1 * u.2))) && (!u1.2.1))) false ((decide (u1.2.2.1 = (5 : Int))) || ((decide (u.1 < (u1.2.2.1 * u.2))) || ((decide (u.1 = (u1.2.2.1 * u.2))) && u1.2.2.2))))))
def d__law_kept (value : Frac) (bound : Bound) : Prop :=
  (LetC value fun (u : Frac) => (LetC bound fun (u1 : Bound) => (mulOk u1.1 u.2 = true) ∧ ((decide (u.1 < (u1.1 * u.2))) = false → (mulOk u1.1 u.2 = true)) ∧ (((decide (u.1 < (u1.1 * u.2))) || ((decide (u.1 = (u1.1 * u.2))) && (!u1.2.1))) = false → ((decide (u1.2.2.1 = (5 : Int))) = false → (mulOk u1.2.2.1 u.2 = true) ∧ ((decide (u.1 < (u1.2.2.1 * u.2))) = false → (mulOk u1.2.2.1 u.2 = true))))))
noncomputable def n__law_behind_1 (machine : Mach) (stands : (List Stand)) (beat : Beat) (found : (List (Stand × Bool))) (found1 : (List (Stand × Bool))) (p : Stand) (now_ : (List Frac))  : (List (Stand × Bool)) → Edge → (List (Stand × Bool)) :=
  fun found2 edge => (LetW (((rngX 0 machine.1).filter (fun clock => (!(n__law_kept (getI now_ clock) (getI edge.2.2.1 clock))))).map fun clock => clock) fun (bad : (List Int)) => (LetW (cond ((decide (edge.1 = p.1)) && ((decide (edge.2.1 = beat.2)) && (decide (bad = ([] : List Int))))) (LetW ((rngX 0 machine.1).map fun clock1 => (cond (decide (clock1 ∈ edge.2.2.2.1)) ((0 : Int), (1 : Int)) (getI now_ clock1))) fun (rest_ : (List Frac)) => (LetW (putX found2 (edge.2.2.2.2, rest_) true) fun (found4 : (List (Stand × Bool))) => found4)) found2) fun (found3 : (List (Stand × Bool))) => found3))
noncomputable def d__law_behind_2 (machine : Mach) (stands : (List Stand)) (beat : Beat) (found : (List (Stand × Bool))) (found1 : (List (Stand × Bool))) (p : Stand) (now_ : (List Frac))  : (List (Stand × Bool)) → Edge → Prop :=
  fun found2 edge => (inR machine.1 = true) ∧ (∀ clock ∈ (rngX 0 machine.1), (InI now_ clock) ∧ (InI edge.2.2.1 clock) ∧ (d__law_kept (getI now_ clock) (getI edge.2.2.1 clock))) ∧ (((rngX 0 machine.1).filter (fun clock => (!(n__law_kept (getI now_ clock) (getI edge.2.2.1 clock))))).length ≤ sizeLine) ∧ (LetC (((rngX 0 machine.1).filter (fun clock => (!(n__law_kept (getI now_ clock) (getI edge.2.2.1 clock))))).map fun clock => clock) fun (bad : (List Int)) => (((decide (edge.1 = p.1)) && ((decide (edge.2.1 = beat.2)) && (decide (bad = ([] : List Int))))) = true → (inR machine.1 = true) ∧ (∀ clock1 ∈ (rngX 0 machine.1), ((decide (clock1 ∈ edge.2.2.2.1)) = false → (InI now_ clock1))) ∧ ((rngX 0 machine.1).length ≤ sizeLine) ∧ (LetC ((rngX 0 machine.1).map fun clock1 => (cond (decide (clock1 ∈ edge.2.2.2.1)) ((0 : Int), (1 : Int)) (getI now_ clock1))) fun (rest_ : (List Frac)) => (found2.length < sizeLine))))
noncomputable def n__law_behind_3 (machine : Mach) (stands : (List Stand)) (beat : Beat) (found : (List (Stand × Bool)))  : (List (Stand × Bool)) → Stand → (List (Stand × Bool)) :=
  fun found1 p => (LetW (p.2.map fun value => (n__law_plus value beat.1)) fun (now_ : (List Frac)) => (LetW (forV machine.2 found1 (n__law_behind_1 machine stands beat found found1 p now_)) fun (found2 : (List (Stand × Bool))) => found2))
noncomputable def d__law_behind_4 (machine : Mach) (stands : (List Stand)) (beat : Beat) (found : (List (Stand × Bool)))  : (List (Stand × Bool)) → Stand → Prop :=
  fun found1 p => (∀ value ∈ p.2, (d__law_plus value beat.1)) ∧ (p.2.length ≤ sizeLine) ∧ (LetC (p.2.map fun value => (n__law_plus value beat.1)) fun (now_ : (List Frac)) => (DFor machine.2 found1 (n__law_behind_1 machine stands beat found found1 p now_) (d__law_behind_2 machine stands beat found found1 p now_)))
noncomputable def n__law_behind (machine : Mach) (stands : (List Stand)) (beat : Beat) : (List Stand) :=
  (LetW ([] : (List (Stand × Bool))) fun (found : (List (Stand × Bool))) => (LetW (forV stands found (n__law_behind_3 machine stands beat found)) fun (found1 : (List (Stand × Bool))) => (sortX eStand (found1.map (·.1)))))
def d__law_behind (machine : Mach) (stands : (List Stand)) (beat : Beat) : Prop :=
  (LetC ([] : (List (Stand × Bool))) fun (found : (List (Stand × Bool))) => (DFor stands found (n__law_behind_3 machine stands beat found) (d__law_behind_4 machine stands beat found)))
noncomputable def n__law_run_1 (machine : Mach) (row : (List Beat)) (stands : (List Stand))  : (List Stand) → Beat → (List Stand) :=
  fun stands1 beat => (LetW (n__law_behind machine stands1 beat) fun (stands2 : (List Stand)) => stands2)
noncomputable def d__law_run_2 (machine : Mach) (row : (List Beat)) (stands : (List Stand))  : (List Stand) → Beat → Prop :=
  fun stands1 beat => (d__law_behind machine stands1 beat)
noncomputable def n__law_run (machine : Mach) (row : (List Beat)) : (List Stand) :=
  (LetW [((0 : Int), (repX [((0 : Int), (1 : Int))] machine.1))] fun (stands : (List Stand)) => (LetW (forV row stands (n__law_run_1 machine row stands)) fun (stands1 : (List Stand)) => stands1))
def d__law_run (machine : Mach) (row : (List Beat)) : Prop :=
  (1 ≤ machine.1) ∧ (machine.1 ≤ 1000) ∧ ([((0 : Int), (1 : Int))].length ≤ 1000) ∧ (LetC [((0 : Int), (repX [((0 : Int), (1 : Int))] machine.1))] fun (stands : (List Stand)) => (DFor row stands (n__law_run_1 machine row stands) (d__law_run_2 machine row stands)))
noncomputable def n_is_row_of_0 (value : Frac) (many : Int) : Bool :=
  (true && (decide ((2 : Int) = many)))
noncomputable def n_is_row_of_1 (value : Bound) (many : Int) : Bool :=
  (true && (decide ((4 : Int) = many)))
noncomputable def n_is_row_of_2 (value : Edge) (many : Int) : Bool :=
  (true && (decide ((5 : Int) = many)))
noncomputable def n_is_row_of_3 (value : (List Bound)) (many : Int) : Bool :=
  (true && (decide ((value.length : Int) = many)))
noncomputable def n_is_row_of_4 (value : Mach) (many : Int) : Bool :=
  (true && (decide ((2 : Int) = many)))
noncomputable def n_is_row_of_5 (value : Beat) (many : Int) : Bool :=
  (true && (decide ((2 : Int) = many)))
noncomputable def n_is_row_of_6 (value : Stand) (many : Int) : Bool :=
  (true && (decide ((2 : Int) = many)))
noncomputable def n_is_row_of_7 (value : (List Frac)) (many : Int) : Bool :=
  (true && (decide ((value.length : Int) = many)))
noncomputable def n_is_within (value : Int) (low : Int) (high : Int) : Bool :=
  (true && ((!false) && ((decide (low ≤ value)) && (decide (value ≤ high)))))
noncomputable def n_is_sign (value : Sg) : Bool :=
  (true && (decide (value ∈ ([Sg.a, Sg.b, Sg.c] : (List Sg)))))
noncomputable def n_is_bound (value : Bound) : Bool :=
  (cond ((!(n_is_row_of_1 value (4 : Int))) || ((!(n_is_within value.1 (0 : Int) (4 : Int))) || (!(n_is_within value.2.2.1 value.1 ((5 : Int) : Int))))) false (cond ((!true) || (!true)) false (cond (decide (value.2.2.1 = ((5 : Int) : Int))) (!value.2.2.2) ((decide (value.1 < value.2.2.1)) || (value.2.1 && value.2.2.2)))))
noncomputable def n_is_edge (clocks : Int) (value : Edge) : Bool :=
  (cond ((!(n_is_row_of_2 value (5 : Int))) || ((!(n_is_within value.1 (0 : Int) (3 : Int))) || (!(n_is_sign value.2.1)))) false (cond ((!(n_is_row_of_3 value.2.2.1 clocks)) || (!((value.2.2.1.map fun bound => (n_is_bound bound)).all id))) false (cond ((!true) || (!((value.2.2.2.1.map fun clock => (n_is_within clock (0 : Int) (clocks - (1 : Int)))).all id))) false ((decide (value.2.2.2.1 = (setX Val.int value.2.2.2.1))) && (n_is_within value.2.2.2.2 (0 : Int) (3 : Int))))))
def d_is_edge (clocks : Int) (value : Edge) : Prop :=
  (((!(n_is_row_of_2 value (5 : Int))) || ((!(n_is_within value.1 (0 : Int) (3 : Int))) || (!(n_is_sign value.2.1)))) = false → ((!(n_is_row_of_3 value.2.2.1 clocks)) = false → (value.2.2.1.length ≤ sizeLine)) ∧ (((!(n_is_row_of_3 value.2.2.1 clocks)) || (!((value.2.2.1.map fun bound => (n_is_bound bound)).all id))) = false → ((!true) = false → (value.2.2.2.1.length ≤ sizeLine)) ∧ (((!true) || (!((value.2.2.2.1.map fun clock => (n_is_within clock (0 : Int) (clocks - (1 : Int)))).all id))) = false → (value.2.2.2.1.length ≤ 4000))))
noncomputable def n_is_machine (value : Mach) : Bool :=
  (cond ((!(n_is_row_of_4 value (2 : Int))) || ((!(n_is_within value.1 (1 : Int) (2 : Int))) || (!true))) false (cond ((!((decide ((1 : Int) ≤ (value.2.length : Int))) && (decide ((value.2.length : Int) ≤ (6 : Int))))) || (!((value.2.map fun edge => (n_is_edge value.1 edge)).all id))) false (decide (value.2 = (setX eEdge value.2)))))
def d_is_machine (value : Mach) : Prop :=
  (((!(n_is_row_of_4 value (2 : Int))) || ((!(n_is_within value.1 (1 : Int) (2 : Int))) || (!true))) = false → ((!((decide ((1 : Int) ≤ (value.2.length : Int))) && (decide ((value.2.length : Int) ≤ (6 : Int))))) = false → (∀ edge ∈ value.2, (d_is_edge value.1 edge)) ∧ (value.2.length ≤ sizeLine)) ∧ (((!((decide ((1 : Int) ≤ (value.2.length : Int))) && (decide ((value.2.length : Int) ≤ (6 : Int))))) || (!((value.2.map fun edge => (n_is_edge value.1 edge)).all id))) = false → ((dedX value.2).length ≤ 4000)))
noncomputable def n_look_at_machine (machine : Mach) : Unit :=
  ()
def d_look_at_machine (machine : Mach) : Prop :=
  (d_is_machine machine) ∧ ((!(n_is_machine machine)) = false)
noncomputable def c_common_1 (one : Int) (other : Int)  : (Int × Int) → Bool :=
  fun s => (!decide (s.2 = (0 : Int)))
noncomputable def n_common_2 (one : Int) (other : Int)  : (Int × Int) → (Int × Int) :=
  fun s => (LetW (s.2, (s.1 % s.2)) fun (s1 : (Int × Int)) => (s1.1, s1.2))
noncomputable def d_common_3 (one : Int) (other : Int)  : (Int × Int) → Prop :=
  fun s => ((!decide (s.2 = (0 : Int))) = true → (0 < s.2))
noncomputable def n_common (one : Int) (other : Int) : Int :=
  (LetW (whileV (c_common_1 one other) (n_common_2 one other) (one, other)) fun (s : (Int × Int)) => s.1)
def d_common (one : Int) (other : Int) : Prop :=
  (DWhile (c_common_1 one other) (n_common_2 one other) (d_common_3 one other) (one, other))
noncomputable def n_is_fraction (value : Frac) : Bool :=
  (cond ((!(n_is_row_of_0 value (2 : Int))) || (!(([value.1, value.2].map fun one => (true && (!false))).all id))) false ((decide ((0 : Int) ≤ value.1)) && ((decide ((1 : Int) ≤ value.2)) && (decide ((n_common value.1 value.2) = (1 : Int))))))
def d_is_fraction (value : Frac) : Prop :=
  ((!(n_is_row_of_0 value (2 : Int))) = false → ([value.1, value.2].length ≤ sizeLine)) ∧ (((!(n_is_row_of_0 value (2 : Int))) || (!(([value.1, value.2].map fun one => (true && (!false))).all id))) = false → ((decide ((0 : Int) ≤ value.1)) = true → ((decide ((1 : Int) ≤ value.2)) = true → (d_common value.1 value.2))))
noncomputable def n_is_beat (value : Beat) : Bool :=
  ((n_is_row_of_5 value (2 : Int)) && ((n_is_fraction value.1) && (n_is_sign value.2)))
def d_is_beat (value : Beat) : Prop :=
  ((n_is_row_of_5 value (2 : Int)) = true → (d_is_fraction value.1))
noncomputable def n_is_row (value : (List Beat)) : Bool :=
  (true && ((decide ((value.length : Int) ≤ ((30 : Int) : Int))) && ((value.map fun beat => (n_is_beat beat)).all id)))
def d_is_row (value : (List Beat)) : Prop :=
  (true = true → ((decide ((value.length : Int) ≤ ((30 : Int) : Int))) = true → (∀ beat ∈ value, (d_is_beat beat)) ∧ (value.length ≤ sizeLine)))
noncomputable def n_look_at_row (row : (List Beat)) : Unit :=
  ()
def d_look_at_row (row : (List Beat)) : Prop :=
  (d_is_row row) ∧ ((!(n_is_row row)) = false)
noncomputable def n_lowest (top : Int) (below : Int) : Frac :=
  (LetW (n_common top below) fun (some_ : Int) => ((top / some_), (below / some_)))
def d_lowest (top : Int) (below : Int) : Prop :=
  (d_common top below) ∧ (LetC (n_common top below) fun (some_ : Int) => (divOk some_) ∧ (divOk some_))
noncomputable def n_plus (one : Frac) (other : Frac) : Frac :=
  (n_lowest ((one.1 * other.2) + (other.1 * one.2)) (one.2 * other.2))
def d_plus (one : Frac) (other : Frac) : Prop :=
  (mulOk one.1 other.2 = true) ∧ (mulOk other.1 one.2 = true) ∧ (mulOk one.2 other.2 = true) ∧ (d_lowest ((one.1 * other.2) + (other.1 * one.2)) (one.2 * other.2))
noncomputable def n_keeps (value : Frac) (bound : Bound) : Bool :=
  (LetW bound fun (u : Bound) => (LetW ((value.1 - (u.1 * value.2)), ((u.2.2.1 * value.2) - value.1)) fun (s : (Int × Int)) => (cond ((decide (s.1 < (0 : Int))) || ((decide (s.1 = (0 : Int))) && (!u.2.1))) false ((decide (u.2.2.1 = ((5 : Int) : Int))) || ((decide ((0 : Int) < s.2)) || ((decide (s.2 = (0 : Int))) && u.2.2.2))))))
def d_keeps (value : Frac) (bound : Bound) : Prop :=
  (LetC bound fun (u : Bound) => (mulOk u.1 value.2 = true) ∧ (mulOk u.2.2.1 value.2 = true))
noncomputable def n_behind_1 (machine : Mach) (stands : (List Stand)) (beat : Beat) (u : Beat) (found : (List Stand)) (found1 : (List Stand)) (p : Stand) (values : (List Frac))  : (List Stand) → Edge → (List Stand) :=
  fun found2 edge => (LetW (cond ((decide ((edge.1, edge.2.1) = (p.1, u.2))) && (((values.zip edge.2.2.1).map fun p1 => (n_keeps p1.1 p1.2)).all id)) (LetW ((enumX 0 values).map fun p2 => (cond (decide (p2.1 ∈ edge.2.2.2.1)) (((0 : Int), (1 : Int)) : Frac) p2.2)) fun (rest_ : (List Frac)) => (LetW (found2 ++ [(edge.2.2.2.2, rest_)]) fun (found4 : (List Stand)) => found4)) found2) fun (found3 : (List Stand)) => found3)
noncomputable def d_behind_2 (machine : Mach) (stands : (List Stand)) (beat : Beat) (u : Beat) (found : (List Stand)) (found1 : (List Stand)) (p : Stand) (values : (List Frac))  : (List Stand) → Edge → Prop :=
  fun found2 edge => ((decide ((edge.1, edge.2.1) = (p.1, u.2))) = true → (∀ p1 ∈ (values.zip edge.2.2.1), (d_keeps p1.1 p1.2)) ∧ ((values.zip edge.2.2.1).length ≤ sizeLine)) ∧ (((decide ((edge.1, edge.2.1) = (p.1, u.2))) && (((values.zip edge.2.2.1).map fun p1 => (n_keeps p1.1 p1.2)).all id)) = true → ((enumX 0 values).length ≤ sizeLine) ∧ (LetC ((enumX 0 values).map fun p2 => (cond (decide (p2.1 ∈ edge.2.2.2.1)) (((0 : Int), (1 : Int)) : Frac) p2.2)) fun (rest_ : (List Frac)) => (found2.length < sizeLine)))
noncomputable def n_behind_3 (machine : Mach) (stands : (List Stand)) (beat : Beat) (u : Beat) (found : (List Stand))  : (List Stand) → Stand → (List Stand) :=
  fun found1 p => (LetW (p.2.map fun value => (n_plus value u.1)) fun (values : (List Frac)) => (LetW (forV machine.2 found1 (n_behind_1 machine stands beat u found found1 p values)) fun (found2 : (List Stand)) => found2))
noncomputable def d_behind_4 (machine : Mach) (stands : (List Stand)) (beat : Beat) (u : Beat) (found : (List Stand))  : (List Stand) → Stand → Prop :=
  fun found1 p => (∀ value ∈ p.2, (d_plus value u.1)) ∧ (p.2.length ≤ sizeLine) ∧ (LetC (p.2.map fun value => (n_plus value u.1)) fun (values : (List Frac)) => (DFor machine.2 found1 (n_behind_1 machine stands beat u found found1 p values) (d_behind_2 machine stands beat u found found1 p values)))
noncomputable def n_behind (machine : Mach) (stands : (List Stand)) (beat : Beat) : (List Stand) :=
  (LetW beat fun (u : Beat) => (LetW ([] : List Stand) fun (found : (List Stand)) => (LetW (forV stands found (n_behind_3 machine stands beat u found)) fun (found1 : (List Stand)) => (setX eStand found1))))
def d_behind (machine : Mach) (stands : (List Stand)) (beat : Beat) : Prop :=
  (LetC beat fun (u : Beat) => (LetC ([] : List Stand) fun (found : (List Stand)) => (DFor stands found (n_behind_3 machine stands beat u found) (d_behind_4 machine stands beat u found)) ∧ (LetC (forV stands found (n_behind_3 machine stands beat u found)) fun (found1 : (List Stand)) => ((dedX found1).length ≤ 4000))))
noncomputable def n_stands_by_1 (machine : Mach) (stands : (List Stand)) (row : (List Beat))  : (List Stand) → Beat → (List Stand) :=
  fun stands1 beat => (LetW (n_behind machine stands1 beat) fun (stands2 : (List Stand)) => stands2)
noncomputable def d_stands_by_2 (machine : Mach) (stands : (List Stand)) (row : (List Beat))  : (List Stand) → Beat → Prop :=
  fun stands1 beat => (d_behind machine stands1 beat)
noncomputable def n_stands_by (machine : Mach) (stands : (List Stand)) (row : (List Beat)) : (List Stand) :=
  (LetW (forV row stands (n_stands_by_1 machine stands row)) fun (stands1 : (List Stand)) => stands1)
def d_stands_by (machine : Mach) (stands : (List Stand)) (row : (List Beat)) : Prop :=
  (DFor row stands (n_stands_by_1 machine stands row) (d_stands_by_2 machine stands row))
noncomputable def n_begin_of (machine : Mach) : Stand :=
  ((0 : Int), (repX [(((0 : Int), (1 : Int)) : Frac)] machine.1))
def d_begin_of (machine : Mach) : Prop :=
  (1 ≤ machine.1) ∧ (machine.1 ≤ 1000) ∧ ([(((0 : Int), (1 : Int)) : Frac)].length ≤ 1000)
noncomputable def n_stands_behind (machine : Mach) (row : (List Beat)) : (List Stand) :=
  (n_stands_by machine [(n_begin_of machine)] row)
def d_stands_behind (machine : Mach) (row : (List Beat)) : Prop :=
  (d_look_at_machine machine) ∧ (d_look_at_row row) ∧ (d_begin_of machine) ∧ (d_stands_by machine [(n_begin_of machine)] row)
noncomputable def n_moment_of_1 (row : (List Beat)) (found : Frac)  : Frac → Beat → Frac :=
  fun found1 p => (LetW (n_plus found1 p.1) fun (found2 : Frac) => found2)
noncomputable def d_moment_of_2 (row : (List Beat)) (found : Frac)  : Frac → Beat → Prop :=
  fun found1 p => (d_plus found1 p.1)
noncomputable def n_moment_of (row : (List Beat)) : Frac :=
  (LetW (((0 : Int), (1 : Int)) : Frac) fun (found : Frac) => (LetW (forV row found (n_moment_of_1 row found)) fun (found1 : Frac) => found1))
def d_moment_of (row : (List Beat)) : Prop :=
  (LetC (((0 : Int), (1 : Int)) : Frac) fun (found : Frac) => (DFor row found (n_moment_of_1 row found) (d_moment_of_2 row found)))
noncomputable def n_moment (row : (List Beat)) : Frac :=
  (n_moment_of row)
def d_moment (row : (List Beat)) : Prop :=
  (d_look_at_row row) ∧ (d_moment_of row)
noncomputable def n__law_total_1 (row : (List Beat)) (found : Frac)  : Frac → Beat → Frac :=
  fun found1 p => (LetW (n__law_plus found1 p.1) fun (found2 : Frac) => found2)
noncomputable def d__law_total_2 (row : (List Beat)) (found : Frac)  : Frac → Beat → Prop :=
  fun found1 p => (d__law_plus found1 p.1)
noncomputable def n__law_total (row : (List Beat)) : Frac :=
  (LetW ((0 : Int), (1 : Int)) fun (found : Frac) => (LetW (forV row found (n__law_total_1 row found)) fun (found1 : Frac) => found1))
def d__law_total (row : (List Beat)) : Prop :=
  (LetC ((0 : Int), (1 : Int)) fun (found : Frac) => (DFor row found (n__law_total_1 row found) (d__law_total_2 row found)))
noncomputable def n_look_at_stand (machine : Mach) (stand : Stand) : Unit :=
  (LetW ((n_is_row_of_6 stand (2 : Int)) && ((n_is_within stand.1 (0 : Int) (3 : Int)) && (n_is_row_of_7 stand.2 machine.1))) fun (good : Bool) => ())
def d_look_at_stand (machine : Mach) (stand : Stand) : Prop :=
  (LetC ((n_is_row_of_6 stand (2 : Int)) && ((n_is_within stand.1 (0 : Int) (3 : Int)) && (n_is_row_of_7 stand.2 machine.1))) fun (good : Bool) => ((!good) = false → (∀ one ∈ stand.2, (d_is_fraction one)) ∧ (stand.2.length ≤ sizeLine)) ∧ (((!good) || (!((stand.2.map fun one => (n_is_fraction one)).all id))) = false))
noncomputable def n_after (machine : Mach) (stand : Stand) (beat : Beat) : (List Stand) :=
  (n_behind machine [stand] beat)
def d_after (machine : Mach) (stand : Stand) (beat : Beat) : Prop :=
  (d_look_at_machine machine) ∧ (d_look_at_stand machine stand) ∧ (d_is_beat beat) ∧ ((!(n_is_beat beat)) = false) ∧ (d_behind machine [stand] beat)
end RP
end

section
set_option maxHeartbeats 4000000
/-! the plain defs are what the mirrors compute (printed by gx.py) -/
namespace LW
open MV PySem RP
theorem x__law_low (top : Int) (below : Int) (h : d__law_low top below) : m__law_low [Val.int top, Val.int below] = some (eFrac (n__law_low top below)) :=
  x_fn (P := [some (Val.int top), some (Val.int below), none, none]) rfl (xo_let (F := (fun r => Out.ret (eFrac r))) (st := (fun s : (Int × Int) => [some (Val.int top), some (Val.int below), some (Val.int s.1), some (Val.int s.2)])) (xn_par (xs_cons (x_rdE rfl (ep_i _)) (xs_cons (x_rdE rfl (ep_i _)) xs_nil))) h (fun s hc3 => (xo_let (F := (fun r => Out.ret (eFrac r))) (st := (fun s1 : (Int × Int) => [some (Val.int top), some (Val.int below), some (Val.int s1.1), some (Val.int s1.2)])) (xn_while (st := (fun s1 : (Int × Int) => [some (Val.int top), some (Val.int below), some (Val.int s1.1), some (Val.int s1.2)])) (c := (c__law_low_1 top below s)) (f := (n__law_low_2 top below s)) (d := (d__law_low_3 top below s)) (le_eq (le_eq (le_eq (le_eq le_nil)))) hc3.1 (fun s1 hb1 => (xt_v (x_c2 (x_rd rfl) x_c (ne_i _ _)))) (fun s1 hb1 hw1 => (xo_one (xo_let0 (F := (fun s => Out.nx ((fun s1 : (Int × Int) => [some (Val.int top), some (Val.int below), some (Val.int s1.1), some (Val.int s1.2)]) s))) (st := (fun s2 : (Int × Int) => [some (Val.int top), some (Val.int below), some (Val.int s2.1), some (Val.int s2.2)])) (xn_par (xs_cons (x_rdE rfl (ep_i _)) (xs_cons (x_c2 (x_rd rfl) (x_rd rfl) (mod_i (hb1 hw1))) xs_nil))) (fun s2 => (xo_end (le_eq (le_eq (le_eq (le_eq le_nil)))))))))) hc3.2 (fun s1 hc2 => (xo_ret (XE.r (x_cN (xs_cons (x_c2 (x_rd rfl) (x_rd rfl) (fdiv_i hc2.1)) (xs_cons (x_c2 (x_rd rfl) (x_rd rfl) (fdiv_i hc2.2)) xs_nil)) (mk_2 (ea := Val.int) (eb := Val.int)))))))))
theorem x__law_plus (one : Frac) (other : Frac) (h : d__law_plus one other) : m__law_plus [eFrac one, eFrac other] = some (eFrac (n__law_plus one other)) :=
  x_fn (P := [some (eFrac one), some (eFrac other)]) rfl (xo_ret (XE.r (x_call (xs_cons (x_c2 (x_c2 (x_c2 (x_rd rfl) x_c (ix2_0 ep_i)) (x_c2 (x_rd rfl) x_c (ix2_1 ep_i)) (mul_i h.1)) (x_c2 (x_c2 (x_rd rfl) x_c (ix2_0 ep_i)) (x_c2 (x_rd rfl) x_c (ix2_1 ep_i)) (mul_i h.2.1)) (add_i _ _)) (xs_cons (x_c2 (x_c2 (x_rd rfl) x_c (ix2_1 ep_i)) (x_c2 (x_rd rfl) x_c (ix2_1 ep_i)) (mul_i h.2.2.1)) xs_nil)) (pL_cons (ep_i _) (pL_cons (ep_i _) rfl)) (x__law_low _ _ h.2.2.2))))
theorem x__law_kept (value : Frac) (bound : Bound) (h : d__law_kept value bound) : m__law_kept [eFrac value, eBound bound] = some (Val.bl (n__law_kept value bound)) :=
  x_fn (P := [some (eFrac value), some (eBound bound), none, none, none, none, none, none]) rfl (xo_let (F := (fun r => Out.ret (Val.bl r))) (st := (fun u : Frac => [some (eFrac value), some (eBound bound), some (Val.int u.1), some (Val.int u.2), none, none, none, none])) (xn_asg (x_rdE rfl (ep_Frac _)) (xg_t rfl (xgs_cons xg_n (xgs_cons xg_n xgs_nil)))) h (fun u hc8 => (xo_let (F := (fun r => Out.ret (Val.bl r))) (st := (fun u1 : Bound => [some (eFrac value), some (eBound bound), some (Val.int u.1), some (Val.int u.2), some (Val.int u1.1), some (Val.bl u1.2.1), some (Val.int u1.2.2.1), some (Val.bl u1.2.2.2)])) (xn_asg (x_rdE rfl (ep_Bound _)) (xg_t rfl (xgs_cons xg_n (xgs_cons xg_n (xgs_cons xg_n (xgs_cons xg_n xgs_nil)))))) hc8 (fun u1 hc7 => (xo_ifret (F := (fun r => Out.ret (Val.bl r))) rfl (xt_or (xt_v (x_c2 (x_rd rfl) (x_c2 (x_rd rfl) (x_rd rfl) (mul_i hc7.1)) (lt_i _ _))) (fun ha2 => (xt_and (xt_v (x_c2 (x_rd rfl) (x_c2 (x_rd rfl) (x_rd rfl) (mul_i (hc7.2.1 ha2))) (eq_i _ _))) (fun ha1 => (xt_not (xt_v (x_rd rfl))))))) (fun hi6 => (xo_ret (XE.r x_c))) (fun hi6 => (xo_ret (XE.r (x_or (x_c2 (x_rd rfl) x_c (eq_i _ _)) (fun ha5 => (x_or (x_c2 (x_rd rfl) (x_c2 (x_rd rfl) (x_rd rfl) (mul_i ((hc7.2.2 hi6) ha5).1)) (lt_i _ _)) (fun ha4 => (x_and (x_c2 (x_rd rfl) (x_c2 (x_rd rfl) (x_rd rfl) (mul_i (((hc7.2.2 hi6) ha5).2 ha4))) (eq_i _ _)) (fun ha3 => (x_rdE rfl (ep_b _))))))))))))))))
theorem x__law_behind (machine : Mach) (stands : (List Stand)) (beat : Beat) (h : d__law_behind machine stands beat) : m__law_behind [eMach machine, (eL eStand) stands, eBeat beat] = some ((eO eStand) (n__law_behind machine stands beat)) :=
  x_fn (P := [some (eMach machine), some ((eL eStand) stands), some (eBeat beat), none, none, none, none, none, none, none, none, none]) rfl (xo_let (F := (fun r => Out.ret ((eO eStand) r))) (st := (fun found : (List (Stand × Bool)) => [some (eMach machine), some ((eL eStand) stands), some (eBeat beat), some ((eD eStand Val.bl) found), none, none, none, none, none, none, none, none])) (xn_set x_c) h (fun found hc13 => (xo_let0 (F := (fun r => Out.ret ((eO eStand) r))) (st := (fun found1 : (List (Stand × Bool)) => [some (eMach machine), some ((eL eStand) stands), some (eBeat beat), some ((eD eStand Val.bl) found1), none, none, none, none, none, none, none, none])) (xn_for (st := (fun found1 : (List (Stand × Bool)) => [some (eMach machine), some ((eL eStand) stands), some (eBeat beat), some ((eD eStand Val.bl) found1), none, none, none, none, none, none, none, none])) (f := (n__law_behind_3 machine stands beat found)) (d := (d__law_behind_4 machine stands beat found)) (g := eStand) (tp := fun found1 p => [some (eMach machine), some ((eL eStand) stands), some (eBeat beat), some ((eD eStand Val.bl) found1), some (Val.int p.1), some ((eT eFrac) p.2), none, none, none, none, none, none]) (xi_l (x_rdE rfl ((ep_L ep_Stand) _)) ep_Stand) (le_eq (le_eq (le_eq (le_eq (le_any (le_any (le_any (le_any (le_any (le_any (le_any (le_any le_nil)))))))))))) hc13 (fun found1 p hb12 => (xg_t rfl (xgs_cons xg_n (xgs_cons xg_n xgs_nil)))) (fun found1 p hb12 => (xo_let (F := (fun s => Out.nx ((fun found1 : (List (Stand × Bool)) => [some (eMach machine), some ((eL eStand) stands), some (eBeat beat), some ((eD eStand Val.bl) found1), none, none, none, none, none, none, none, none]) s))) (st := (fun now_ : (List Frac) => [some (eMach machine), some ((eL eStand) stands), some (eBeat beat), some ((eD eStand Val.bl) found1), some (Val.int p.1), some ((eT eFrac) p.2), some ((eL eFrac) now_), none, none, none, none, none])) (xn_set (x_frL ep_Frac (x_lc (P := [some (eMach machine), some ((eL eStand) stands), some (eBeat beat), some ((eD eStand Val.bl) found1), some (Val.int p.1), some ((eT eFrac) p.2), none, none, none, none, none, none]) (g := eFrac) (e := eFrac) (f := fun value => (n__law_plus value beat.1)) (tp := fun value => [some (eMach machine), some ((eL eStand) stands), some (eBeat beat), some ((eD eStand Val.bl) found1), some (Val.int p.1), some ((eT eFrac) p.2), none, none, none, none, some (eFrac value), none]) (xi_T (x_rdE rfl ((ep_T ep_Frac) _)) ep_Frac) (own_ok (own := [10]) rfl) (fun value => fit_le (P := [some (eMach machine), some ((eL eStand) stands), some (eBeat beat), some ((eD eStand Val.bl) found1), some (Val.int p.1), some ((eT eFrac) p.2), none, none, none, none, none, none]) (Q := [some (eMach machine), some ((eL eStand) stands), some (eBeat beat), some ((eD eStand Val.bl) found1), some (Val.int p.1), some ((eT eFrac) p.2), none, none, none, none, some (eFrac value), none]) (le_eq (le_eq (le_eq (le_eq (le_eq (le_eq (le_any (le_any (le_any (le_any (le_any (le_any le_nil)))))))))))) (own_ok (own := [10]) rfl)) (fun value hm1 => ⟨xg_n, (x_call (xs_cons (x_rd rfl) (xs_cons (x_c2 (x_rd rfl) x_c (ix2_0 ep_Frac)) xs_nil)) (pL_cons (ep_Frac _) (pL_cons (ep_Frac _) rfl)) (x__law_plus _ _ (hb12.1 value hm1)))⟩) hb12.2.1))) hb12.2.2 (fun now_ hc11 => (xo_one (xo_let0 (F := (fun s => Out.nx ((fun found1 : (List (Stand × Bool)) => [some (eMach machine), some ((eL eStand) stands), some (eBeat beat), some ((eD eStand Val.bl) found1), none, none, none, none, none, none, none, none]) s))) (st := (fun found2 : (List (Stand × Bool)) => [some (eMach machine), some ((eL eStand) stands), some (eBeat beat), some ((eD eStand Val.bl) found2), some (Val.int p.1), some ((eT eFrac) p.2), some ((eL eFrac) now_), none, none, none, none, none])) (xn_for (st := (fun found2 : (List (Stand × Bool)) => [some (eMach machine), some ((eL eStand) stands), some (eBeat beat), some ((eD eStand Val.bl) found2), some (Val.int p.1), some ((eT eFrac) p.2), some ((eL eFrac) now_), none, none, none, none, none])) (f := (n__law_behind_1 machine stands beat found found1 p now_)) (d := (d__law_behind_2 machine stands beat found found1 p now_)) (g := eEdge) (tp := fun found2 edge => [some (eMach machine), some ((eL eStand) stands), some (eBeat beat), some ((eD eStand Val.bl) found2), some (Val.int p.1), some ((eT eFrac) p.2), some ((eL eFrac) now_), some (eEdge edge), none, none, none, none]) (xi_T (x_c2 (x_rd rfl) x_c (ix2_1 (ep_T ep_Edge))) ep_Edge) (le_eq (le_eq (le_eq (le_eq (le_eq (le_eq (le_eq (le_any (le_any (le_any (le_any (le_any le_nil)))))))))))) hc11 (fun found2 edge hb10 => xg_n) (fun found2 edge hb10 => (xo_let (F := (fun s => Out.nx ((fun found2 : (List (Stand × Bool)) => [some (eMach machine), some ((eL eStand) stands), some (eBeat beat), some ((eD eStand Val.bl) found2), some (Val.int p.1), some ((eT eFrac) p.2), some ((eL eFrac) now_), none, none, none, none, none]) s))) (st := (fun bad : (List Int) => [some (eMach machine), some ((eL eStand) stands), some (eBeat beat), some ((eD eStand Val.bl) found2), some (Val.int p.1), some ((eT eFrac) p.2), some ((eL eFrac) now_), some (eEdge edge), some ((eL Val.int) bad), none, none, none])) (xn_set (x_frL ep_i (x_lcf (P := [some (eMach machine), some ((eL eStand) stands), some (eBeat beat), some ((eD eStand Val.bl) found2), some (Val.int p.1), some ((eT eFrac) p.2), some ((eL eFrac) now_), some (eEdge edge), none, none, none, none]) (g := Val.int) (e := Val.int) (t := (fun clock => (!(n__law_kept (getI now_ clock) (getI edge.2.2.1 clock))))) (f := fun clock => clock) (tp := fun clock => [some (eMach machine), some ((eL eStand) stands), some (eBeat beat), some ((eD eStand Val.bl) found2), some (Val.int p.1), some ((eT eFrac) p.2), some ((eL eFrac) now_), some (eEdge edge), none, none, none, some (Val.int clock)]) (xi_r1 (x_c2 (x_rd rfl) x_c (ix2_0 ep_i)) hb10.1) (own_ok (own := [11]) rfl) (fun clock => fit_le (P := [some (eMach machine), some ((eL eStand) stands), some (eBeat beat), some ((eD eStand Val.bl) found2), some (Val.int p.1), some ((eT eFrac) p.2), some ((eL eFrac) now_), some (eEdge edge), none, none, none, none]) (Q := [some (eMach machine), some ((eL eStand) stands), some (eBeat beat), some ((eD eStand Val.bl) found2), some (Val.int p.1), some ((eT eFrac) p.2), some ((eL eFrac) now_), some (eEdge edge), none, none, none, some (Val.int clock)]) (le_eq (le_eq (le_eq (le_eq (le_eq (le_eq (le_eq (le_eq (le_any (le_any (le_any (le_any le_nil)))))))))))) (own_ok (own := [11]) rfl)) (fun clock hm2 => ⟨xg_n, (xt_not (xt_v (x_call (xs_cons (x_c2 (x_rd rfl) (x_rd rfl) (ix_l ep_Frac (hb10.2.1 clock hm2).1)) (xs_cons (x_c2 (x_c2 (x_rd rfl) x_c (ix5_2 (ep_T ep_Bound))) (x_rd rfl) (ix_T ep_Bound (hb10.2.1 clock hm2).2.1)) xs_nil)) (pL_cons (ep_Frac _) (pL_cons (ep_Bound _) rfl)) (x__law_kept _ _ (hb10.2.1 clock hm2).2.2)))), fun ht2 => (x_rdE rfl (ep_i _))⟩) (by rw [List.length_map]; exact hb10.2.2.1)))) hb10.2.2.2 (fun bad hc9 => (xo_one (xo_let0 (F := (fun s => Out.nx ((fun found2 : (List (Stand × Bool)) => [some (eMach machine), some ((eL eStand) stands), some (eBeat beat), some ((eD eStand Val.bl) found2), some (Val.int p.1), some ((eT eFrac) p.2), some ((eL eFrac) now_), none, none, none, none, none]) s))) (st := (fun found3 : (List (Stand × Bool)) => [some (eMach machine), some ((eL eStand) stands), some (eBeat beat), some ((eD eStand Val.bl) found3), some (Val.int p.1), some ((eT eFrac) p.2), some ((eL eFrac) now_), some (eEdge edge), some ((eL Val.int) bad), none, none, none])) (xn_if (st := (fun found3 : (List (Stand × Bool)) => [some (eMach machine), some ((eL eStand) stands), some (eBeat beat), some ((eD eStand Val.bl) found3), some (Val.int p.1), some ((eT eFrac) p.2), some ((eL eFrac) now_), some (eEdge edge), some ((eL Val.int) bad), none, none, none])) (xt_and (xt_v (x_c2 (x_c2 (x_rd rfl) x_c (ix5_0 ep_i)) (x_rd rfl) (eq_i _ _))) (fun ha4 => (xt_and (xt_v (x_c2 (x_c2 (x_rd rfl) x_c (ix5_1 ep_sg)) (x_c2 (x_rd rfl) x_c (ix2_1 ep_sg)) (eq_k ek_sg (by decide) _ _))) (fun ha3 => (xt_v (x_c2 (x_rd rfl) (x_cN xs_nil (mk_O (e := Val.int) ([] : List Int) (Nat.le_of_ble_eq_true rfl))) (eq_l ek_i (by decide) _ _))))))) (fun hi8 => (xo_let (F := (fun s => Out.nx ((fun found3 : (List (Stand × Bool)) => [some (eMach machine), some ((eL eStand) stands), some (eBeat beat), some ((eD eStand Val.bl) found3), some (Val.int p.1), some ((eT eFrac) p.2), some ((eL eFrac) now_), some (eEdge edge), some ((eL Val.int) bad), none, none, none]) s))) (st := (fun rest_ : (List Frac) => [some (eMach machine), some ((eL eStand) stands), some (eBeat beat), some ((eD eStand Val.bl) found2), some (Val.int p.1), some ((eT eFrac) p.2), some ((eL eFrac) now_), some (eEdge edge), some ((eL Val.int) bad), some ((eT eFrac) rest_), none, none])) (xn_set (x_cN (xs_cons (x_lc (P := [some (eMach machine), some ((eL eStand) stands), some (eBeat beat), some ((eD eStand Val.bl) found2), some (Val.int p.1), some ((eT eFrac) p.2), some ((eL eFrac) now_), some (eEdge edge), some ((eL Val.int) bad), none, none, none]) (g := Val.int) (e := eFrac) (f := fun clock1 => (cond (decide (clock1 ∈ edge.2.2.2.1)) ((0 : Int), (1 : Int)) (getI now_ clock1))) (tp := fun clock1 => [some (eMach machine), some ((eL eStand) stands), some (eBeat beat), some ((eD eStand Val.bl) found2), some (Val.int p.1), some ((eT eFrac) p.2), some ((eL eFrac) now_), some (eEdge edge), some ((eL Val.int) bad), none, none, some (Val.int clock1)]) (xi_r1 (x_c2 (x_rd rfl) x_c (ix2_0 ep_i)) (hc9 hi8).1) (own_ok (own := [11]) rfl) (fun clock1 => fit_le (P := [some (eMach machine), some ((eL eStand) stands), some (eBeat beat), some ((eD eStand Val.bl) found2), some (Val.int p.1), some ((eT eFrac) p.2), some ((eL eFrac) now_), some (eEdge edge), some ((eL Val.int) bad), none, none, none]) (Q := [some (eMach machine), some ((eL eStand) stands), some (eBeat beat), some ((eD eStand Val.bl) found2), some (Val.int p.1), some ((eT eFrac) p.2), some ((eL eFrac) now_), some (eEdge edge), some ((eL Val.int) bad), none, none, some (Val.int clock1)]) (le_eq (le_eq (le_eq (le_eq (le_eq (le_eq (le_eq (le_eq (le_eq (le_any (le_any (le_any le_nil)))))))))))) (own_ok (own := [11]) rfl)) (fun clock1 hm5 => ⟨xg_n, (x_if (e := eFrac) (xt_v (x_c2 (x_rd rfl) (x_c2 (x_rd rfl) x_c (ix5_3 (ep_T ep_i))) (in_T ek_i (by decide) _ _))) (fun ha6 => (x_cN (xs_cons x_c (xs_cons x_c xs_nil)) (mk_2 (ea := Val.int) (eb := Val.int)))) (fun ha6 => (x_c2 (x_rd rfl) (x_rd rfl) (ix_l ep_Frac (((hc9 hi8).2.1 clock1 hm5) ha6)))))⟩) (hc9 hi8).2.2.1) xs_nil) (tup_l ep_Frac))) (hc9 hi8).2.2.2 (fun rest_ hc7 => (xo_one (xo_let0 (F := (fun s => Out.nx ((fun found3 : (List (Stand × Bool)) => [some (eMach machine), some ((eL eStand) stands), some (eBeat beat), some ((eD eStand Val.bl) found3), some (Val.int p.1), some ((eT eFrac) p.2), some ((eL eFrac) now_), some (eEdge edge), some ((eL Val.int) bad), none, none, none]) s))) (st := (fun found4 : (List (Stand × Bool)) => [some (eMach machine), some ((eL eStand) stands), some (eBeat beat), some ((eD eStand Val.bl) found4), some (Val.int p.1), some ((eT eFrac) p.2), some ((eL eFrac) now_), some (eEdge edge), some ((eL Val.int) bad), some ((eT eFrac) rest_), none, none])) (xn_dput (ek := eStand) (ev := Val.bl) ek_Stand er_Stand ep_b rfl x_c (x_cN (xs_cons (x_c2 (x_rd rfl) x_c (ix5_4 ep_i)) (xs_cons (x_rdE rfl ((ep_T ep_Frac) _)) xs_nil)) (mk_2 (ea := Val.int) (eb := (eT eFrac)))) hc7) (fun found4 => (xo_end (le_eq (le_eq (le_eq (le_eq (le_eq (le_eq (le_eq (le_eq (le_eq (le_any (le_any (le_any le_nil))))))))))))))))))) (fun hi8 => (xo_end (le_eq (le_eq (le_eq (le_eq (le_eq (le_eq (le_eq (le_eq (le_eq (le_any (le_any (le_any le_nil))))))))))))))) (fun found3 => (xo_end (le_eq (le_eq (le_eq (le_eq (le_eq (le_eq (le_eq (le_any (le_any (le_any (le_any (le_any le_nil)))))))))))))))))))) (fun found2 => (xo_end (le_eq (le_eq (le_eq (le_eq (le_any (le_any (le_any (le_any (le_any (le_any (le_any (le_any le_nil)))))))))))))))))))) (fun found1 => (xo_ret (XE.r (x_c1 (x_rd rfl) (sort_d ek_Stand (by decide) er_Stand))))))))
theorem x__law_run (machine : Mach) (row : (List Beat)) (h : d__law_run machine row) : m__law_run [eMach machine, (eT eBeat) row] = some ((eL eStand) (n__law_run machine row)) :=
  x_fn (P := [some (eMach machine), some ((eT eBeat) row), none, none]) rfl (xo_let (F := (fun r => Out.ret ((eL eStand) r))) (st := (fun stands : (List Stand) => [some (eMach machine), some ((eT eBeat) row), some ((eL eStand) stands), none])) (xn_set (x_frL ep_Stand (x_cN (xs_cons (x_cN (xs_cons x_c (xs_cons (x_c2 (x_cN (xs_cons (x_cN (xs_cons x_c (xs_cons x_c xs_nil)) (mk_2 (ea := Val.int) (eb := Val.int))) xs_nil) (mk_T (e := eFrac) [((0 : Int), (1 : Int))] (Nat.le_of_ble_eq_true rfl))) (x_c2 (x_rd rfl) x_c (ix2_0 ep_i)) (rep_T ep_Frac h.1 h.2.1 h.2.2.1)) xs_nil)) (mk_2 (ea := Val.int) (eb := (eT eFrac)))) xs_nil) (mk_O (e := eStand) [((0 : Int), (repX [((0 : Int), (1 : Int))] machine.1))] (Nat.le_of_ble_eq_true rfl))))) h.2.2.2 (fun stands hc2 => (xo_let0 (F := (fun r => Out.ret ((eL eStand) r))) (st := (fun stands1 : (List Stand) => [some (eMach machine), some ((eT eBeat) row), some ((eL eStand) stands1), none])) (xn_for (st := (fun stands1 : (List Stand) => [some (eMach machine), some ((eT eBeat) row), some ((eL eStand) stands1), none])) (f := (n__law_run_1 machine row stands)) (d := (d__law_run_2 machine row stands)) (g := eBeat) (tp := fun stands1 beat => [some (eMach machine), some ((eT eBeat) row), some ((eL eStand) stands1), some (eBeat beat)]) (xi_T (x_rdE rfl ((ep_T ep_Beat) _)) ep_Beat) (le_eq (le_eq (le_eq (le_any le_nil)))) hc2 (fun stands1 beat hb1 => xg_n) (fun stands1 beat hb1 => (xo_one (xo_let0 (F := (fun s => Out.nx ((fun stands1 : (List Stand) => [some (eMach machine), some ((eT eBeat) row), some ((eL eStand) stands1), none]) s))) (st := (fun stands2 : (List Stand) => [some (eMach machine), some ((eT eBeat) row), some ((eL eStand) stands2), some (eBeat beat)])) (xn_set (x_frL ep_Stand (x_call (xs_cons (x_rd rfl) (xs_cons (x_rd rfl) (xs_cons (x_rd rfl) xs_nil))) (pL_cons (ep_Mach _) (pL_cons ((ep_L ep_Stand) _) (pL_cons (ep_Beat _) rfl))) (x__law_behind _ _ _ hb1)))) (fun stands2 => (xo_end (le_eq (le_eq (le_eq (le_any le_nil)))))))))) (fun stands1 => (xo_ret (xr_mv rfl))))))
theorem x_is_row_of_0 (value : Frac) (many : Int) : m_is_row_of [eFrac value, Val.int many] = some (Val.bl (n_is_row_of_0 value many)) :=
  x_fn (P := [some (eFrac value), some (Val.int many)]) rfl (xo_ret (XE.r (x_and (x_c1 (w := .bl true) (x_rd rfl) rfl) (fun ha1 => (x_c2 (x_cN (xs_cons (x_rd rfl) xs_nil) rfl) (x_rd rfl) (eq_i _ _))))))
theorem x_is_row_of_1 (value : Bound) (many : Int) : m_is_row_of [eBound value, Val.int many] = some (Val.bl (n_is_row_of_1 value many)) :=
  x_fn (P := [some (eBound value), some (Val.int many)]) rfl (xo_ret (XE.r (x_and (x_c1 (w := .bl true) (x_rd rfl) rfl) (fun ha1 => (x_c2 (x_cN (xs_cons (x_rd rfl) xs_nil) rfl) (x_rd rfl) (eq_i _ _))))))
theorem x_is_row_of_2 (value : Edge) (many : Int) : m_is_row_of [eEdge value, Val.int many] = some (Val.bl (n_is_row_of_2 value many)) :=
  x_fn (P := [some (eEdge value), some (Val.int many)]) rfl (xo_ret (XE.r (x_and (x_c1 (w := .bl true) (x_rd rfl) rfl) (fun ha1 => (x_c2 (x_cN (xs_cons (x_rd rfl) xs_nil) rfl) (x_rd rfl) (eq_i _ _))))))
theorem x_is_row_of_3 (value : (List Bound)) (many : Int) : m_is_row_of [(eT eBound) value, Val.int many] = some (Val.bl (n_is_row_of_3 value many)) :=
  x_fn (P := [some ((eT eBound) value), some (Val.int many)]) rfl (xo_ret (XE.r (x_and (x_c1 (w := .bl true) (x_rd rfl) rfl) (fun ha1 => (x_c2 (x_cN (xs_cons (x_rd rfl) xs_nil) (len_T eBound _)) (x_rd rfl) (eq_i _ _))))))
theorem x_is_row_of_4 (value : Mach) (many : Int) : m_is_row_of [eMach value, Val.int many] = some (Val.bl (n_is_row_of_4 value many)) :=
  x_fn (P := [some (eMach value), some (Val.int many)]) rfl (xo_ret (XE.r (x_and (x_c1 (w := .bl true) (x_rd rfl) rfl) (fun ha1 => (x_c2 (x_cN (xs_cons (x_rd rfl) xs_nil) rfl) (x_rd rfl) (eq_i _ _))))))
theorem x_is_row_of_5 (value : Beat) (many : Int) : m_is_row_of [eBeat value, Val.int many] = some (Val.bl (n_is_row_of_5 value many)) :=
  x_fn (P := [some (eBeat value), some (Val.int many)]) rfl (xo_ret (XE.r (x_and (x_c1 (w := .bl true) (x_rd rfl) rfl) (fun ha1 => (x_c2 (x_cN (xs_cons (x_rd rfl) xs_nil) rfl) (x_rd rfl) (eq_i _ _))))))
theorem x_is_row_of_6 (value : Stand) (many : Int) : m_is_row_of [eStand value, Val.int many] = some (Val.bl (n_is_row_of_6 value many)) :=
  x_fn (P := [some (eStand value), some (Val.int many)]) rfl (xo_ret (XE.r (x_and (x_c1 (w := .bl true) (x_rd rfl) rfl) (fun ha1 => (x_c2 (x_cN (xs_cons (x_rd rfl) xs_nil) rfl) (x_rd rfl) (eq_i _ _))))))
theorem x_is_row_of_7 (value : (List Frac)) (many : Int) : m_is_row_of [(eT eFrac) value, Val.int many] = some (Val.bl (n_is_row_of_7 value many)) :=
  x_fn (P := [some ((eT eFrac) value), some (Val.int many)]) rfl (xo_ret (XE.r (x_and (x_c1 (w := .bl true) (x_rd rfl) rfl) (fun ha1 => (x_c2 (x_cN (xs_cons (x_rd rfl) xs_nil) (len_T eFrac _)) (x_rd rfl) (eq_i _ _))))))
theorem x_is_within (value : Int) (low : Int) (high : Int) : m_is_within [Val.int value, Val.int low, Val.int high] = some (Val.bl (n_is_within value low high)) :=
  x_fn (P := [some (Val.int value), some (Val.int low), some (Val.int high)]) rfl (xo_ret (XE.r (x_and (x_c1 (w := .bl true) (x_rd rfl) rfl) (fun ha2 => (x_and (x_not (x_c1 (w := .bl false) (x_rd rfl) rfl)) (fun ha1 => (x_ch (x_rd rfl) (x_rd rfl) (le_i _ _) (x_rd rfl) (le_i _ _))))))))
theorem x_is_sign (value : Sg) : m_is_sign [eSg value] = some (Val.bl (n_is_sign value)) :=
  x_fn (P := [some (eSg value)]) rfl (xo_ret (XE.r (x_and (x_c1 (w := .bl true) (x_rd rfl) (isi_sg _)) (fun ha1 => (x_c2 (x_rd rfl) (x_cg (w := (eT eSg) ([Sg.a, Sg.b, Sg.c] : (List Sg))) rfl) (in_T ek_sg (by decide) _ _))))))
theorem x_is_bound (value : Bound) : m_is_bound [eBound value] = some (Val.bl (n_is_bound value)) :=
  x_fn (P := [some (eBound value)]) rfl (xo_ifret (F := (fun r => Out.ret (Val.bl r))) rfl (xt_or (xt_not (xt_v (x_call (xs_cons (x_rd rfl) (xs_cons x_c xs_nil)) (pL_cons (ep_Bound _) (pL_cons (ep_i _) rfl)) (x_is_row_of_1 _ _ )))) (fun ha2 => (xt_or (xt_not (xt_v (x_call (xs_cons (x_c2 (x_rd rfl) x_c (ix4_0 ep_i)) (xs_cons x_c (xs_cons x_c xs_nil))) (pL_cons (ep_i _) (pL_cons (ep_i _) (pL_cons (ep_i _) rfl))) (x_is_within _ _ _ )))) (fun ha1 => (xt_not (xt_v (x_call (xs_cons (x_c2 (x_rd rfl) x_c (ix4_2 ep_i)) (xs_cons (x_c2 (x_rd rfl) x_c (ix4_0 ep_i)) (xs_cons (x_cg (w := Val.int ((5 : Int) : Int)) rfl) xs_nil))) (pL_cons (ep_i _) (pL_cons (ep_i _) (pL_cons (ep_i _) rfl))) (x_is_within _ _ _ )))))))) (fun hi8 => (xo_ret (XE.r x_c))) (fun hi8 => (xo_ifret (F := (fun r => Out.ret (Val.bl r))) rfl (xt_or (xt_not (xt_v (x_c1 (w := .bl true) (x_c2 (x_rd rfl) x_c (ix4_1 ep_b)) rfl))) (fun ha3 => (xt_not (xt_v (x_c1 (w := .bl true) (x_c2 (x_rd rfl) x_c (ix4_3 ep_b)) rfl))))) (fun hi7 => (xo_ret (XE.r x_c))) (fun hi7 => (xo_ifret (F := (fun r => Out.ret (Val.bl r))) rfl (xt_v (x_c2 (x_c2 (x_rd rfl) x_c (ix4_2 ep_i)) (x_cg (w := Val.int ((5 : Int) : Int)) rfl) (eq_i _ _))) (fun hi6 => (xo_ret (XE.r (x_not (x_c2 (x_rd rfl) x_c (ix4_3 ep_b)))))) (fun hi6 => (xo_ret (XE.r (x_or (x_c2 (x_c2 (x_rd rfl) x_c (ix4_0 ep_i)) (x_c2 (x_rd rfl) x_c (ix4_2 ep_i)) (lt_i _ _)) (fun ha5 => (x_and (x_c2 (x_rd rfl) x_c (ix4_1 ep_b)) (fun ha4 => (x_c2 (x_rd rfl) x_c (ix4_3 ep_b))))))))))))))
theorem x_is_edge (clocks : Int) (value : Edge) (h : d_is_edge clocks value) : m_is_edge [Val.int clocks, eEdge value] = some (Val.bl (n_is_edge clocks value)) :=
  x_fn (P := [some (Val.int clocks), some (eEdge value), none, none]) rfl (xo_ifret (F := (fun r => Out.ret (Val.bl r))) rfl (xt_or (xt_not (xt_v (x_call (xs_cons (x_rd rfl) (xs_cons x_c xs_nil)) (pL_cons (ep_Edge _) (pL_cons (ep_i _) rfl)) (x_is_row_of_2 _ _ )))) (fun ha2 => (xt_or (xt_not (xt_v (x_call (xs_cons (x_c2 (x_rd rfl) x_c (ix5_0 ep_i)) (xs_cons x_c (xs_cons x_c xs_nil))) (pL_cons (ep_i _) (pL_cons (ep_i _) (pL_cons (ep_i _) rfl))) (x_is_within _ _ _ )))) (fun ha1 => (xt_not (xt_v (x_call (xs_cons (x_c2 (x_rd rfl) x_c (ix5_1 ep_sg)) xs_nil) (pL_cons (ep_sg _) rfl) (x_is_sign _ )))))))) (fun hi10 => (xo_ret (XE.r x_c))) (fun hi10 => (xo_ifret (F := (fun r => Out.ret (Val.bl r))) rfl (xt_or (xt_not (xt_v (x_call (xs_cons (x_c2 (x_rd rfl) x_c (ix5_2 (ep_T ep_Bound))) (xs_cons (x_rd rfl) xs_nil)) (pL_cons ((ep_T ep_Bound) _) (pL_cons (ep_i _) rfl)) (x_is_row_of_3 _ _ )))) (fun ha4 => (xt_not (xt_v (x_cN (xs_cons (x_lc (P := [some (Val.int clocks), some (eEdge value), none, none]) (g := eBound) (e := Val.bl) (f := fun bound => (n_is_bound bound)) (tp := fun bound => [some (Val.int clocks), some (eEdge value), some (eBound bound), none]) (xi_T (x_c2 (x_rd rfl) x_c (ix5_2 (ep_T ep_Bound))) ep_Bound) (own_ok (own := [2]) rfl) (fun bound => fit_le (P := [some (Val.int clocks), some (eEdge value), none, none]) (Q := [some (Val.int clocks), some (eEdge value), some (eBound bound), none]) (le_eq (le_eq (le_any (le_any le_nil)))) (own_ok (own := [2]) rfl)) (fun bound hm3 => ⟨xg_n, (x_call (xs_cons (x_rd rfl) xs_nil) (pL_cons (ep_Bound _) rfl) (x_is_bound _ ))⟩) ((h hi10).1 ha4)) xs_nil) (all_l _ _)))))) (fun hi9 => (xo_ret (XE.r x_c))) (fun hi9 => (xo_ifret (F := (fun r => Out.ret (Val.bl r))) rfl (xt_or (xt_not (xt_v (x_c1 (w := .bl true) (x_c2 (x_rd rfl) x_c (ix5_3 (ep_T ep_i))) rfl))) (fun ha6 => (xt_not (xt_v (x_cN (xs_cons (x_lc (P := [some (Val.int clocks), some (eEdge value), none, none]) (g := Val.int) (e := Val.bl) (f := fun clock => (n_is_within clock (0 : Int) (clocks - (1 : Int)))) (tp := fun clock => [some (Val.int clocks), some (eEdge value), none, some (Val.int clock)]) (xi_T (x_c2 (x_rd rfl) x_c (ix5_3 (ep_T ep_i))) ep_i) (own_ok (own := [3]) rfl) (fun clock => fit_le (P := [some (Val.int clocks), some (eEdge value), none, none]) (Q := [some (Val.int clocks), some (eEdge value), none, some (Val.int clock)]) (le_eq (le_eq (le_any (le_any le_nil)))) (own_ok (own := [3]) rfl)) (fun clock hm5 => ⟨xg_n, (x_call (xs_cons (x_rd rfl) (xs_cons x_c (xs_cons (x_c2 (x_rd rfl) x_c (sub_i _ _)) xs_nil))) (pL_cons (ep_i _) (pL_cons (ep_i _) (pL_cons (ep_i _) rfl))) (x_is_within _ _ _ ))⟩) (((h hi10).2 hi9).1 ha6)) xs_nil) (all_l _ _)))))) (fun hi8 => (xo_ret (XE.r x_c))) (fun hi8 => (xo_ret (XE.r (x_and (x_c2 (x_cN (xs_cons (x_c2 (x_rd rfl) x_c (ix5_3 (ep_T ep_i))) xs_nil) (lst_T ep_i)) (x_c1 (x_c2 (x_rd rfl) x_c (ix5_3 (ep_T ep_i))) (sortset_iT (((h hi10).2 hi9).2 hi8))) (eq_l ek_i (by decide) _ _)) (fun ha7 => (x_call (xs_cons (x_c2 (x_rd rfl) x_c (ix5_4 ep_i)) (xs_cons x_c (xs_cons x_c xs_nil))) (pL_cons (ep_i _) (pL_cons (ep_i _) (pL_cons (ep_i _) rfl))) (x_is_within _ _ _ ))))))))))))
theorem x_is_machine (value : Mach) (h : d_is_machine value) : m_is_machine [eMach value] = some (Val.bl (n_is_machine value)) :=
  x_fn (P := [some (eMach value), none]) rfl (xo_ifret (F := (fun r => Out.ret (Val.bl r))) rfl (xt_or (xt_not (xt_v (x_call (xs_cons (x_rd rfl) (xs_cons x_c xs_nil)) (pL_cons (ep_Mach _) (pL_cons (ep_i _) rfl)) (x_is_row_of_4 _ _ )))) (fun ha2 => (xt_or (xt_not (xt_v (x_call (xs_cons (x_c2 (x_rd rfl) x_c (ix2_0 ep_i)) (xs_cons x_c (xs_cons x_c xs_nil))) (pL_cons (ep_i _) (pL_cons (ep_i _) (pL_cons (ep_i _) rfl))) (x_is_within _ _ _ )))) (fun ha1 => (xt_not (xt_v (x_c1 (w := .bl true) (x_c2 (x_rd rfl) x_c (ix2_1 (ep_T ep_Edge))) rfl))))))) (fun hi6 => (xo_ret (XE.r x_c))) (fun hi6 => (xo_ifret (F := (fun r => Out.ret (Val.bl r))) rfl (xt_or (xt_not (xt_v (x_ch x_c (x_cN (xs_cons (x_c2 (x_rd rfl) x_c (ix2_1 (ep_T ep_Edge))) xs_nil) (len_T eEdge _)) (le_i _ _) x_c (le_i _ _)))) (fun ha4 => (xt_not (xt_v (x_cN (xs_cons (x_lc (P := [some (eMach value), none]) (g := eEdge) (e := Val.bl) (f := fun edge => (n_is_edge value.1 edge)) (tp := fun edge => [some (eMach value), some (eEdge edge)]) (xi_T (x_c2 (x_rd rfl) x_c (ix2_1 (ep_T ep_Edge))) ep_Edge) (own_ok (own := [1]) rfl) (fun edge => fit_le (P := [some (eMach value), none]) (Q := [some (eMach value), some (eEdge edge)]) (le_eq (le_any le_nil)) (own_ok (own := [1]) rfl)) (fun edge hm3 => ⟨xg_n, (x_call (xs_cons (x_c2 (x_rd rfl) x_c (ix2_0 ep_i)) (xs_cons (x_rd rfl) xs_nil)) (pL_cons (ep_i _) (pL_cons (ep_Edge _) rfl)) (x_is_edge _ _ (((h hi6).1 ha4).1 edge hm3)))⟩) ((h hi6).1 ha4).2) xs_nil) (all_l _ _)))))) (fun hi5 => (xo_ret (XE.r x_c))) (fun hi5 => (xo_ret (XE.r (x_c2 (x_cN (xs_cons (x_c2 (x_rd rfl) x_c (ix2_1 (ep_T ep_Edge))) xs_nil) (lst_T ep_Edge)) (x_c1 (x_c2 (x_rd rfl) x_c (ix2_1 (ep_T ep_Edge))) (sortset_T ek_Edge er_Edge ((h hi6).2 hi5))) (eq_l ek_Edge (by decide) _ _))))))))
theorem x_look_at_machine (machine : Mach) (h : d_look_at_machine machine) : m_look_at_machine [eMach machine] = some (eN (n_look_at_machine machine)) :=
  x_fnN (P := [some (eMach machine)]) rfl (xo_one (xo_seq (xn_assert (xt_not (xt_v (x_call (xs_cons (x_rd rfl) xs_nil) (pL_cons (ep_Mach _) rfl) (x_is_machine _ h.1)))) h.2) (xo_end (Q := [none]) (le_any le_nil))))
theorem x_common (one : Int) (other : Int) (h : d_common one other) : m_common [Val.int one, Val.int other] = some (Val.int (n_common one other)) :=
  x_fn (P := [some (Val.int one), some (Val.int other)]) rfl (xo_let0 (F := (fun r => Out.ret (Val.int r))) (st := (fun s : (Int × Int) => [some (Val.int s.1), some (Val.int s.2)])) (xn_while (st := (fun s : (Int × Int) => [some (Val.int s.1), some (Val.int s.2)])) (c := (c_common_1 one other)) (f := (n_common_2 one other)) (d := (d_common_3 one other)) (le_eq (le_eq le_nil)) h (fun s hb1 => (xt_v (x_c2 (x_rd rfl) x_c (ne_i _ _)))) (fun s hb1 hw1 => (xo_one (xo_let0 (F := (fun s => Out.nx ((fun s : (Int × Int) => [some (Val.int s.1), some (Val.int s.2)]) s))) (st := (fun s1 : (Int × Int) => [some (Val.int s1.1), some (Val.int s1.2)])) (xn_par (xs_cons (x_rdE rfl (ep_i _)) (xs_cons (x_c2 (x_rd rfl) (x_rd rfl) (mod_i (hb1 hw1))) xs_nil))) (fun s1 => (xo_end (le_eq (le_eq le_nil)))))))) (fun s => (xo_ret (xr_mv rfl))))
theorem x_is_fraction (value : Frac) (h : d_is_fraction value) : m_is_fraction [eFrac value] = some (Val.bl (n_is_fraction value)) :=
  x_fn (P := [some (eFrac value), none]) rfl (xo_ifret (F := (fun r => Out.ret (Val.bl r))) rfl (xt_or (xt_not (xt_v (x_call (xs_cons (x_rd rfl) (xs_cons x_c xs_nil)) (pL_cons (ep_Frac _) (pL_cons (ep_i _) rfl)) (x_is_row_of_0 _ _ )))) (fun ha3 => (xt_not (xt_v (x_cN (xs_cons (x_lc (P := [some (eFrac value), none]) (g := Val.int) (e := Val.bl) (f := fun one => (true && (!false))) (tp := fun one => [some (eFrac value), some (Val.int one)]) (xi_pr (e := Val.int) (xs := [value.1, value.2]) (x_rdE rfl (ep_Frac _)) rfl (ep_Frac _)) (own_ok (own := [1]) rfl) (fun one => fit_le (P := [some (eFrac value), none]) (Q := [some (eFrac value), some (Val.int one)]) (le_eq (le_any le_nil)) (own_ok (own := [1]) rfl)) (fun one hm1 => ⟨xg_n, (x_and (x_c1 (w := .bl true) (x_rd rfl) rfl) (fun ha2 => (x_not (x_c1 (w := .bl false) (x_rd rfl) rfl))))⟩) (h.1 ha3)) xs_nil) (all_l _ _)))))) (fun hi6 => (xo_ret (XE.r x_c))) (fun hi6 => (xo_ret (XE.r (x_and (x_c2 (x_c2 (x_rd rfl) x_c (ix2_0 ep_i)) x_c (ge_i _ _)) (fun ha5 => (x_and (x_c2 (x_c2 (x_rd rfl) x_c (ix2_1 ep_i)) x_c (ge_i _ _)) (fun ha4 => (x_c2 (x_call (xs_cons (x_c2 (x_rd rfl) x_c (ix2_0 ep_i)) (xs_cons (x_c2 (x_rd rfl) x_c (ix2_1 ep_i)) xs_nil)) (pL_cons (ep_i _) (pL_cons (ep_i _) rfl)) (x_common _ _ (((h.2 hi6) ha5) ha4))) x_c (eq_i _ _))))))))))
theorem x_is_beat (value : Beat) (h : d_is_beat value) : m_is_beat [eBeat value] = some (Val.bl (n_is_beat value)) :=
  x_fn (P := [some (eBeat value)]) rfl (xo_ret (XE.r (x_and (x_call (xs_cons (x_rd rfl) (xs_cons x_c xs_nil)) (pL_cons (ep_Beat _) (pL_cons (ep_i _) rfl)) (x_is_row_of_5 _ _ )) (fun ha2 => (x_and (x_call (xs_cons (x_c2 (x_rd rfl) x_c (ix2_0 ep_Frac)) xs_nil) (pL_cons (ep_Frac _) rfl) (x_is_fraction _ (h ha2))) (fun ha1 => (x_call (xs_cons (x_c2 (x_rd rfl) x_c (ix2_1 ep_sg)) xs_nil) (pL_cons (ep_sg _) rfl) (x_is_sign _ ))))))))
theorem x_is_row (value : (List Beat)) (h : d_is_row value) : m_is_row [(eT eBeat) value] = some (Val.bl (n_is_row value)) :=
  x_fn (P := [some ((eT eBeat) value), none]) rfl (xo_ret (XE.r (x_and (x_c1 (w := .bl true) (x_rd rfl) rfl) (fun ha3 => (x_and (x_c2 (x_cN (xs_cons (x_rd rfl) xs_nil) (len_T eBeat _)) (x_cg (w := Val.int ((30 : Int) : Int)) rfl) (le_i _ _)) (fun ha2 => (x_cN (xs_cons (x_lc (P := [some ((eT eBeat) value), none]) (g := eBeat) (e := Val.bl) (f := fun beat => (n_is_beat beat)) (tp := fun beat => [some ((eT eBeat) value), some (eBeat beat)]) (xi_T (x_rdE rfl ((ep_T ep_Beat) _)) ep_Beat) (own_ok (own := [1]) rfl) (fun beat => fit_le (P := [some ((eT eBeat) value), none]) (Q := [some ((eT eBeat) value), some (eBeat beat)]) (le_eq (le_any le_nil)) (own_ok (own := [1]) rfl)) (fun beat hm1 => ⟨xg_n, (x_call (xs_cons (x_rd rfl) xs_nil) (pL_cons (ep_Beat _) rfl) (x_is_beat _ (((h ha3) ha2).1 beat hm1)))⟩) ((h ha3) ha2).2) xs_nil) (all_l _ _))))))))
theorem x_look_at_row (row : (List Beat)) (h : d_look_at_row row) : m_look_at_row [(eT eBeat) row] = some (eN (n_look_at_row row)) :=
  x_fnN (P := [some ((eT eBeat) row)]) rfl (xo_one (xo_seq (xn_assert (xt_not (xt_v (x_call (xs_cons (x_rd rfl) xs_nil) (pL_cons ((ep_T ep_Beat) _) rfl) (x_is_row _ h.1)))) h.2) (xo_end (Q := [none]) (le_any le_nil))))
theorem x_lowest (top : Int) (below : Int) (h : d_lowest top below) : m_lowest [Val.int top, Val.int below] = some (eFrac (n_lowest top below)) :=
  x_fn (P := [some (Val.int top), some (Val.int below), none]) rfl (xo_let (F := (fun r => Out.ret (eFrac r))) (st := (fun some_ : Int => [some (Val.int top), some (Val.int below), some (Val.int some_)])) (xn_set (x_call (xs_cons (x_rd rfl) (xs_cons (x_rd rfl) xs_nil)) (pL_cons (ep_i _) (pL_cons (ep_i _) rfl)) (x_common _ _ h.1))) h.2 (fun some_ hc1 => (xo_ret (XE.r (x_cN (xs_cons (x_c2 (x_rd rfl) (x_rd rfl) (fdiv_i hc1.1)) (xs_cons (x_c2 (x_rd rfl) (x_rd rfl) (fdiv_i hc1.2)) xs_nil)) (mk_2 (ea := Val.int) (eb := Val.int)))))))
theorem x_plus (one : Frac) (other : Frac) (h : d_plus one other) : m_plus [eFrac one, eFrac other] = some (eFrac (n_plus one other)) :=
  x_fn (P := [some (eFrac one), some (eFrac other)]) rfl (xo_ret (XE.r (x_call (xs_cons (x_c2 (x_c2 (x_c2 (x_rd rfl) x_c (ix2_0 ep_i)) (x_c2 (x_rd rfl) x_c (ix2_1 ep_i)) (mul_i h.1)) (x_c2 (x_c2 (x_rd rfl) x_c (ix2_0 ep_i)) (x_c2 (x_rd rfl) x_c (ix2_1 ep_i)) (mul_i h.2.1)) (add_i _ _)) (xs_cons (x_c2 (x_c2 (x_rd rfl) x_c (ix2_1 ep_i)) (x_c2 (x_rd rfl) x_c (ix2_1 ep_i)) (mul_i h.2.2.1)) xs_nil)) (pL_cons (ep_i _) (pL_cons (ep_i _) rfl)) (x_lowest _ _ h.2.2.2))))
theorem x_keeps (value : Frac) (bound : Bound) (h : d_keeps value bound) : m_keeps [eFrac value, eBound bound] = some (Val.bl (n_keeps value bound)) :=
  x_fn (P := [some (eFrac value), some (eBound bound), none, none, none, none, none, none]) rfl (xo_let (F := (fun r => Out.ret (Val.bl r))) (st := (fun u : Bound => [some (eFrac value), some (eBound bound), some (Val.int u.1), some (Val.bl u.2.1), some (Val.int u.2.2.1), some (Val.bl u.2.2.2), none, none])) (xn_asg (x_rdE rfl (ep_Bound _)) (xg_t rfl (xgs_cons xg_n (xgs_cons xg_n (xgs_cons xg_n (xgs_cons xg_n xgs_nil)))))) h (fun u hc7 => (xo_let0 (F := (fun r => Out.ret (Val.bl r))) (st := (fun s : (Int × Int) => [some (eFrac value), some (eBound bound), some (Val.int u.1), some (Val.bl u.2.1), some (Val.int u.2.2.1), some (Val.bl u.2.2.2), some (Val.int s.1), some (Val.int s.2)])) (xn_par (xs_cons (x_c2 (x_c2 (x_rd rfl) x_c (ix2_0 ep_i)) (x_c2 (x_rd rfl) (x_c2 (x_rd rfl) x_c (ix2_1 ep_i)) (mul_i hc7.1)) (sub_i _ _)) (xs_cons (x_c2 (x_c2 (x_rd rfl) (x_c2 (x_rd rfl) x_c (ix2_1 ep_i)) (mul_i hc7.2)) (x_c2 (x_rd rfl) x_c (ix2_0 ep_i)) (sub_i _ _)) xs_nil))) (fun s => (xo_ifret (F := (fun r => Out.ret (Val.bl r))) rfl (xt_or (xt_v (x_c2 (x_rd rfl) x_c (lt_i _ _))) (fun ha2 => (xt_and (xt_v (x_c2 (x_rd rfl) x_c (eq_i _ _))) (fun ha1 => (xt_not (xt_v (x_rd rfl))))))) (fun hi6 => (xo_ret (XE.r x_c))) (fun hi6 => (xo_ret (XE.r (x_or (x_c2 (x_rd rfl) (x_cg (w := Val.int ((5 : Int) : Int)) rfl) (eq_i _ _)) (fun ha5 => (x_or (x_c2 (x_rd rfl) x_c (gt_i _ _)) (fun ha4 => (x_and (x_c2 (x_rd rfl) x_c (eq_i _ _)) (fun ha3 => (x_rdE rfl (ep_b _))))))))))))))))
theorem x_behind (machine : Mach) (stands : (List Stand)) (beat : Beat) (h : d_behind machine stands beat) : m_behind [eMach machine, (eL eStand) stands, eBeat beat] = some ((eO eStand) (n_behind machine stands beat)) :=
  x_fn (P := [some (eMach machine), some ((eL eStand) stands), some (eBeat beat), none, none, none, none, none, none, none, none, none, none]) rfl (xo_let (F := (fun r => Out.ret ((eO eStand) r))) (st := (fun u : Beat => [some (eMach machine), some ((eL eStand) stands), some (eBeat beat), some (eFrac u.1), some (eSg u.2), none, none, none, none, none, none, none, none])) (xn_asg (x_rdE rfl (ep_Beat _)) (xg_t rfl (xgs_cons xg_n (xgs_cons xg_n xgs_nil)))) h (fun u hc13 => (xo_let (F := (fun r => Out.ret ((eO eStand) r))) (st := (fun found : (List Stand) => [some (eMach machine), some ((eL eStand) stands), some (eBeat beat), some (eFrac u.1), some (eSg u.2), some ((eO eStand) found), none, none, none, none, none, none, none])) (xn_set (x_cN xs_nil (mk_O (e := eStand) ([] : List Stand) (Nat.le_of_ble_eq_true rfl)))) hc13 (fun found hc12 => (xo_let (F := (fun r => Out.ret ((eO eStand) r))) (st := (fun found1 : (List Stand) => [some (eMach machine), some ((eL eStand) stands), some (eBeat beat), some (eFrac u.1), some (eSg u.2), some ((eO eStand) found1), none, none, none, none, none, none, none])) (xn_for (st := (fun found1 : (List Stand) => [some (eMach machine), some ((eL eStand) stands), some (eBeat beat), some (eFrac u.1), some (eSg u.2), some ((eO eStand) found1), none, none, none, none, none, none, none])) (f := (n_behind_3 machine stands beat u found)) (d := (d_behind_4 machine stands beat u found)) (g := eStand) (tp := fun found1 p => [some (eMach machine), some ((eL eStand) stands), some (eBeat beat), some (eFrac u.1), some (eSg u.2), some ((eO eStand) found1), some (Val.int p.1), some ((eT eFrac) p.2), none, none, none, none, none]) (xi_l (x_rdE rfl ((ep_L ep_Stand) _)) ep_Stand) (le_eq (le_eq (le_eq (le_eq (le_eq (le_eq (le_any (le_any (le_any (le_any (le_any (le_any (le_any le_nil))))))))))))) hc12.1 (fun found1 p hb10 => (xg_t rfl (xgs_cons xg_n (xgs_cons xg_n xgs_nil)))) (fun found1 p hb10 => (xo_let (F := (fun s => Out.nx ((fun found1 : (List Stand) => [some (eMach machine), some ((eL eStand) stands), some (eBeat beat), some (eFrac u.1), some (eSg u.2), some ((eO eStand) found1), none, none, none, none, none, none, none]) s))) (st := (fun values : (List Frac) => [some (eMach machine), some ((eL eStand) stands), some (eBeat beat), some (eFrac u.1), some (eSg u.2), some ((eO eStand) found1), some (Val.int p.1), some ((eT eFrac) values), none, none, none, none, none])) (xn_set (x_cN (xs_cons (x_lc (P := [some (eMach machine), some ((eL eStand) stands), some (eBeat beat), some (eFrac u.1), some (eSg u.2), some ((eO eStand) found1), some (Val.int p.1), some ((eT eFrac) p.2), none, none, none, none, none]) (g := eFrac) (e := eFrac) (f := fun value => (n_plus value u.1)) (tp := fun value => [some (eMach machine), some ((eL eStand) stands), some (eBeat beat), some (eFrac u.1), some (eSg u.2), some ((eO eStand) found1), some (Val.int p.1), some ((eT eFrac) p.2), none, none, some (eFrac value), none, none]) (xi_T (x_rdE rfl ((ep_T ep_Frac) _)) ep_Frac) (own_ok (own := [10]) rfl) (fun value => fit_le (P := [some (eMach machine), some ((eL eStand) stands), some (eBeat beat), some (eFrac u.1), some (eSg u.2), some ((eO eStand) found1), some (Val.int p.1), some ((eT eFrac) p.2), none, none, none, none, none]) (Q := [some (eMach machine), some ((eL eStand) stands), some (eBeat beat), some (eFrac u.1), some (eSg u.2), some ((eO eStand) found1), some (Val.int p.1), some ((eT eFrac) p.2), none, none, some (eFrac value), none, none]) (le_eq (le_eq (le_eq (le_eq (le_eq (le_eq (le_eq (le_eq (le_any (le_any (le_any (le_any (le_any le_nil))))))))))))) (own_ok (own := [10]) rfl)) (fun value hm1 => ⟨xg_n, (x_call (xs_cons (x_rd rfl) (xs_cons (x_rd rfl) xs_nil)) (pL_cons (ep_Frac _) (pL_cons (ep_Frac _) rfl)) (x_plus _ _ (hb10.1 value hm1)))⟩) hb10.2.1) xs_nil) (tup_l ep_Frac))) hb10.2.2 (fun values hc9 => (xo_one (xo_let0 (F := (fun s => Out.nx ((fun found1 : (List Stand) => [some (eMach machine), some ((eL eStand) stands), some (eBeat beat), some (eFrac u.1), some (eSg u.2), some ((eO eStand) found1), none, none, none, none, none, none, none]) s))) (st := (fun found2 : (List Stand) => [some (eMach machine), some ((eL eStand) stands), some (eBeat beat), some (eFrac u.1), some (eSg u.2), some ((eO eStand) found2), some (Val.int p.1), some ((eT eFrac) values), none, none, none, none, none])) (xn_for (st := (fun found2 : (List Stand) => [some (eMach machine), some ((eL eStand) stands), some (eBeat beat), some (eFrac u.1), some (eSg u.2), some ((eO eStand) found2), some (Val.int p.1), some ((eT eFrac) values), none, none, none, none, none])) (f := (n_behind_1 machine stands beat u found found1 p values)) (d := (d_behind_2 machine stands beat u found found1 p values)) (g := eEdge) (tp := fun found2 edge => [some (eMach machine), some ((eL eStand) stands), some (eBeat beat), some (eFrac u.1), some (eSg u.2), some ((eO eStand) found2), some (Val.int p.1), some ((eT eFrac) values), some (eEdge edge), none, none, none, none]) (xi_T (x_c2 (x_rd rfl) x_c (ix2_1 (ep_T ep_Edge))) ep_Edge) (le_eq (le_eq (le_eq (le_eq (le_eq (le_eq (le_eq (le_eq (le_any (le_any (le_any (le_any (le_any le_nil))))))))))))) hc9 (fun found2 edge hb8 => xg_n) (fun found2 edge hb8 => (xo_one (xo_let0 (F := (fun s => Out.nx ((fun found2 : (List Stand) => [some (eMach machine), some ((eL eStand) stands), some (eBeat beat), some (eFrac u.1), some (eSg u.2), some ((eO eStand) found2), some (Val.int p.1), some ((eT eFrac) values), none, none, none, none, none]) s))) (st := (fun found3 : (List Stand) => [some (eMach machine), some ((eL eStand) stands), some (eBeat beat), some (eFrac u.1), some (eSg u.2), some ((eO eStand) found3), some (Val.int p.1), some ((eT eFrac) values), some (eEdge edge), none, none, none, none])) (xn_if (st := (fun found3 : (List Stand) => [some (eMach machine), some ((eL eStand) stands), some (eBeat beat), some (eFrac u.1), some (eSg u.2), some ((eO eStand) found3), some (Val.int p.1), some ((eT eFrac) values), some (eEdge edge), none, none, none, none])) (xt_and (xt_v (x_c2 (x_sl (z := (e2 Val.int eSg) (edge.1, edge.2.1)) (x_rd rfl) xp_n (xp_s x_c) (sl_t (ep_Edge _) rfl)) (x_cN (xs_cons (x_rdE rfl (ep_i _)) (xs_cons (x_rdE rfl (ep_sg _)) xs_nil)) (mk_2 (ea := Val.int) (eb := eSg))) (eq_k (ek_2 ek_i ek_sg) (by decide) _ _))) (fun ha3 => (xt_v (x_cN (xs_cons (x_lc (P := [some (eMach machine), some ((eL eStand) stands), some (eBeat beat), some (eFrac u.1), some (eSg u.2), some ((eO eStand) found2), some (Val.int p.1), some ((eT eFrac) values), some (eEdge edge), none, none, none, none]) (g := (e2 eFrac eBound)) (e := Val.bl) (f := fun p1 => (n_keeps p1.1 p1.2)) (tp := fun p1 => [some (eMach machine), some ((eL eStand) stands), some (eBeat beat), some (eFrac u.1), some (eSg u.2), some ((eO eStand) found2), some (Val.int p.1), some ((eT eFrac) values), some (eEdge edge), none, some (eFrac p1.1), none, some (eBound p1.2)]) (xi_zT (x_rdE rfl ((ep_T ep_Frac) _)) (x_c2 (x_rd rfl) x_c (ix5_2 (ep_T ep_Bound))) ep_Frac ep_Bound) (own_ok (own := [10, 12]) rfl) (fun p1 => fit_le (P := [some (eMach machine), some ((eL eStand) stands), some (eBeat beat), some (eFrac u.1), some (eSg u.2), some ((eO eStand) found2), some (Val.int p.1), some ((eT eFrac) values), some (eEdge edge), none, none, none, none]) (Q := [some (eMach machine), some ((eL eStand) stands), some (eBeat beat), some (eFrac u.1), some (eSg u.2), some ((eO eStand) found2), some (Val.int p.1), some ((eT eFrac) values), some (eEdge edge), none, some (eFrac p1.1), none, some (eBound p1.2)]) (le_eq (le_eq (le_eq (le_eq (le_eq (le_eq (le_eq (le_eq (le_eq (le_any (le_any (le_any (le_any le_nil))))))))))))) (own_ok (own := [10, 12]) rfl)) (fun p1 hm2 => ⟨(xg_t rfl (xgs_cons xg_n (xgs_cons xg_n xgs_nil))), (x_call (xs_cons (x_rd rfl) (xs_cons (x_rd rfl) xs_nil)) (pL_cons (ep_Frac _) (pL_cons (ep_Bound _) rfl)) (x_keeps _ _ ((hb8.1 ha3).1 p1 hm2)))⟩) (hb8.1 ha3).2) xs_nil) (all_l _ _))))) (fun hi7 => (xo_let (F := (fun s => Out.nx ((fun found3 : (List Stand) => [some (eMach machine), some ((eL eStand) stands), some (eBeat beat), some (eFrac u.1), some (eSg u.2), some ((eO eStand) found3), some (Val.int p.1), some ((eT eFrac) values), some (eEdge edge), none, none, none, none]) s))) (st := (fun rest_ : (List Frac) => [some (eMach machine), some ((eL eStand) stands), some (eBeat beat), some (eFrac u.1), some (eSg u.2), some ((eO eStand) found2), some (Val.int p.1), some ((eT eFrac) values), some (eEdge edge), some ((eL eFrac) rest_), none, none, none])) (xn_set (x_frL ep_Frac (x_lc (P := [some (eMach machine), some ((eL eStand) stands), some (eBeat beat), some (eFrac u.1), some (eSg u.2), some ((eO eStand) found2), some (Val.int p.1), some ((eT eFrac) values), some (eEdge edge), none, none, none, none]) (g := (e2 Val.int eFrac)) (e := eFrac) (f := fun p2 => (cond (decide (p2.1 ∈ edge.2.2.2.1)) (((0 : Int), (1 : Int)) : Frac) p2.2)) (tp := fun p2 => [some (eMach machine), some ((eL eStand) stands), some (eBeat beat), some (eFrac u.1), some (eSg u.2), some ((eO eStand) found2), some (Val.int p.1), some ((eT eFrac) values), some (eEdge edge), none, some (eFrac p2.2), some (Val.int p2.1), none]) (xi_eT (x_rdE rfl ((ep_T ep_Frac) _)) ep_Frac) (own_ok (own := [11, 10]) rfl) (fun p2 => fit_le (P := [some (eMach machine), some ((eL eStand) stands), some (eBeat beat), some (eFrac u.1), some (eSg u.2), some ((eO eStand) found2), some (Val.int p.1), some ((eT eFrac) values), some (eEdge edge), none, none, none, none]) (Q := [some (eMach machine), some ((eL eStand) stands), some (eBeat beat), some (eFrac u.1), some (eSg u.2), some ((eO eStand) found2), some (Val.int p.1), some ((eT eFrac) values), some (eEdge edge), none, some (eFrac p2.2), some (Val.int p2.1), none]) (le_eq (le_eq (le_eq (le_eq (le_eq (le_eq (le_eq (le_eq (le_eq (le_any (le_any (le_any (le_any le_nil))))))))))))) (own_ok (own := [11, 10]) rfl)) (fun p2 hm4 => ⟨(xg_t rfl (xgs_cons xg_n (xgs_cons xg_n xgs_nil))), (x_if (e := eFrac) (xt_v (x_c2 (x_rd rfl) (x_c2 (x_rd rfl) x_c (ix5_3 (ep_T ep_i))) (in_T ek_i (by decide) _ _))) (fun ha5 => (x_cg (w := eFrac (((0 : Int), (1 : Int)) : Frac)) rfl)) (fun ha5 => (x_rdE rfl (ep_Frac _))))⟩) (hb8.2 hi7).1))) (hb8.2 hi7).2 (fun rest_ hc6 => (xo_one (xo_let0 (F := (fun s => Out.nx ((fun found3 : (List Stand) => [some (eMach machine), some ((eL eStand) stands), some (eBeat beat), some (eFrac u.1), some (eSg u.2), some ((eO eStand) found3), some (Val.int p.1), some ((eT eFrac) values), some (eEdge edge), none, none, none, none]) s))) (st := (fun found4 : (List Stand) => [some (eMach machine), some ((eL eStand) stands), some (eBeat beat), some (eFrac u.1), some (eSg u.2), some ((eO eStand) found4), some (Val.int p.1), some ((eT eFrac) values), some (eEdge edge), some ((eL eFrac) rest_), none, none, none])) (xn_app (e := eStand) ep_Stand rfl (x_cN (xs_cons (x_c2 (x_rd rfl) x_c (ix5_4 ep_i)) (xs_cons (x_cN (xs_cons (x_rd rfl) xs_nil) (tup_l ep_Frac)) xs_nil)) (mk_2 (ea := Val.int) (eb := (eT eFrac)))) hc6) (fun found4 => (xo_end (le_eq (le_eq (le_eq (le_eq (le_eq (le_eq (le_eq (le_eq (le_eq (le_any (le_any (le_any (le_any le_nil)))))))))))))))))))) (fun hi7 => (xo_end (le_eq (le_eq (le_eq (le_eq (le_eq (le_eq (le_eq (le_eq (le_eq (le_any (le_any (le_any (le_any le_nil)))))))))))))))) (fun found3 => (xo_end (le_eq (le_eq (le_eq (le_eq (le_eq (le_eq (le_eq (le_eq (le_any (le_any (le_any (le_any (le_any le_nil))))))))))))))))))) (fun found2 => (xo_end (le_eq (le_eq (le_eq (le_eq (le_eq (le_eq (le_any (le_any (le_any (le_any (le_any (le_any (le_any le_nil))))))))))))))))))))) hc12.2 (fun found1 hc11 => (xo_ret (XE.r (x_c1 (x_rd rfl) (sortset_l ek_Stand er_Stand hc11))))))))))
theorem x_stands_by (machine : Mach) (stands : (List Stand)) (row : (List Beat)) (h : d_stands_by machine stands row) : m_stands_by [eMach machine, (eL eStand) stands, (eT eBeat) row] = some ((eL eStand) (n_stands_by machine stands row)) :=
  x_fn (P := [some (eMach machine), some ((eL eStand) stands), some ((eT eBeat) row), none]) rfl (xo_let0 (F := (fun r => Out.ret ((eL eStand) r))) (st := (fun stands1 : (List Stand) => [some (eMach machine), some ((eL eStand) stands1), some ((eT eBeat) row), none])) (xn_for (st := (fun stands1 : (List Stand) => [some (eMach machine), some ((eL eStand) stands1), some ((eT eBeat) row), none])) (f := (n_stands_by_1 machine stands row)) (d := (d_stands_by_2 machine stands row)) (g := eBeat) (tp := fun stands1 beat => [some (eMach machine), some ((eL eStand) stands1), some ((eT eBeat) row), some (eBeat beat)]) (xi_T (x_rdE rfl ((ep_T ep_Beat) _)) ep_Beat) (le_eq (le_eq (le_eq (le_any le_nil)))) h (fun stands1 beat hb1 => xg_n) (fun stands1 beat hb1 => (xo_one (xo_let0 (F := (fun s => Out.nx ((fun stands1 : (List Stand) => [some (eMach machine), some ((eL eStand) stands1), some ((eT eBeat) row), none]) s))) (st := (fun stands2 : (List Stand) => [some (eMach machine), some ((eL eStand) stands2), some ((eT eBeat) row), some (eBeat beat)])) (xn_set (x_frL ep_Stand (x_call (xs_cons (x_rd rfl) (xs_cons (x_rd rfl) (xs_cons (x_rd rfl) xs_nil))) (pL_cons (ep_Mach _) (pL_cons ((ep_L ep_Stand) _) (pL_cons (ep_Beat _) rfl))) (x_behind _ _ _ hb1)))) (fun stands2 => (xo_end (le_eq (le_eq (le_eq (le_any le_nil)))))))))) (fun stands1 => (xo_ret (xr_mv rfl))))
theorem x_begin_of (machine : Mach) (h : d_begin_of machine) : m_begin_of [eMach machine] = some (eStand (n_begin_of machine)) :=
  x_fn (P := [some (eMach machine)]) rfl (xo_ret (XE.r (x_cN (xs_cons x_c (xs_cons (x_c2 (x_cN (xs_cons (x_cg (w := eFrac (((0 : Int), (1 : Int)) : Frac)) rfl) xs_nil) (mk_T (e := eFrac) [(((0 : Int), (1 : Int)) : Frac)] (Nat.le_of_ble_eq_true rfl))) (x_c2 (x_rd rfl) x_c (ix2_0 ep_i)) (rep_T ep_Frac h.1 h.2.1 h.2.2)) xs_nil)) (mk_2 (ea := Val.int) (eb := (eT eFrac))))))
theorem x_stands_behind (machine : Mach) (row : (List Beat)) (h : d_stands_behind machine row) : m_stands_behind [eMach machine, (eT eBeat) row] = some ((eL eStand) (n_stands_behind machine row)) :=
  x_fn (P := [some (eMach machine), some ((eT eBeat) row)]) rfl (xo_seq (xn_drop (x_call (xs_cons (x_rd rfl) xs_nil) (pL_cons (ep_Mach _) rfl) (x_look_at_machine _ h.1))) (xo_seq (xn_drop (x_call (xs_cons (x_rd rfl) xs_nil) (pL_cons ((ep_T ep_Beat) _) rfl) (x_look_at_row _ h.2.1))) (xo_ret (XE.r (x_call (xs_cons (x_rd rfl) (xs_cons (x_frL ep_Stand (x_cN (xs_cons (x_call (xs_cons (x_rd rfl) xs_nil) (pL_cons (ep_Mach _) rfl) (x_begin_of _ h.2.2.1)) xs_nil) (mk_O (e := eStand) [(n_begin_of machine)] (Nat.le_of_ble_eq_true rfl)))) (xs_cons (x_rd rfl) xs_nil))) (pL_cons (ep_Mach _) (pL_cons ((ep_L ep_Stand) _) (pL_cons ((ep_T ep_Beat) _) rfl))) (x_stands_by _ _ _ h.2.2.2))))))
theorem x_moment_of (row : (List Beat)) (h : d_moment_of row) : m_moment_of [(eT eBeat) row] = some (eFrac (n_moment_of row)) :=
  x_fn (P := [some ((eT eBeat) row), none, none, none]) rfl (xo_let (F := (fun r => Out.ret (eFrac r))) (st := (fun found : Frac => [some ((eT eBeat) row), some (eFrac found), none, none])) (xn_set (x_cg (w := eFrac (((0 : Int), (1 : Int)) : Frac)) rfl)) h (fun found hc2 => (xo_let0 (F := (fun r => Out.ret (eFrac r))) (st := (fun found1 : Frac => [some ((eT eBeat) row), some (eFrac found1), none, none])) (xn_for (st := (fun found1 : Frac => [some ((eT eBeat) row), some (eFrac found1), none, none])) (f := (n_moment_of_1 row found)) (d := (d_moment_of_2 row found)) (g := eBeat) (tp := fun found1 p => [some ((eT eBeat) row), some (eFrac found1), some (eFrac p.1), some (eSg p.2)]) (xi_T (x_rdE rfl ((ep_T ep_Beat) _)) ep_Beat) (le_eq (le_eq (le_any (le_any le_nil)))) hc2 (fun found1 p hb1 => (xg_t rfl (xgs_cons xg_n (xgs_cons xg_n xgs_nil)))) (fun found1 p hb1 => (xo_one (xo_let0 (F := (fun s => Out.nx ((fun found1 : Frac => [some ((eT eBeat) row), some (eFrac found1), none, none]) s))) (st := (fun found2 : Frac => [some ((eT eBeat) row), some (eFrac found2), some (eFrac p.1), some (eSg p.2)])) (xn_set (x_call (xs_cons (x_rd rfl) (xs_cons (x_rd rfl) xs_nil)) (pL_cons (ep_Frac _) (pL_cons (ep_Frac _) rfl)) (x_plus _ _ hb1))) (fun found2 => (xo_end (le_eq (le_eq (le_any (le_any le_nil)))))))))) (fun found1 => (xo_ret (xr_mv rfl))))))
theorem x_moment (row : (List Beat)) (h : d_moment row) : m_moment [(eT eBeat) row] = some (eFrac (n_moment row)) :=
  x_fn (P := [some ((eT eBeat) row)]) rfl (xo_seq (xn_drop (x_call (xs_cons (x_rd rfl) xs_nil) (pL_cons ((ep_T ep_Beat) _) rfl) (x_look_at_row _ h.1))) (xo_ret (XE.r (x_call (xs_cons (x_rd rfl) xs_nil) (pL_cons ((ep_T ep_Beat) _) rfl) (x_moment_of _ h.2)))))
theorem x__law_total (row : (List Beat)) (h : d__law_total row) : m__law_total [(eT eBeat) row] = some (eFrac (n__law_total row)) :=
  x_fn (P := [some ((eT eBeat) row), none, none, none]) rfl (xo_let (F := (fun r => Out.ret (eFrac r))) (st := (fun found : Frac => [some ((eT eBeat) row), some (eFrac found), none, none])) (xn_set (x_cN (xs_cons x_c (xs_cons x_c xs_nil)) (mk_2 (ea := Val.int) (eb := Val.int)))) h (fun found hc2 => (xo_let0 (F := (fun r => Out.ret (eFrac r))) (st := (fun found1 : Frac => [some ((eT eBeat) row), some (eFrac found1), none, none])) (xn_for (st := (fun found1 : Frac => [some ((eT eBeat) row), some (eFrac found1), none, none])) (f := (n__law_total_1 row found)) (d := (d__law_total_2 row found)) (g := eBeat) (tp := fun found1 p => [some ((eT eBeat) row), some (eFrac found1), some (eFrac p.1), some (eSg p.2)]) (xi_T (x_rdE rfl ((ep_T ep_Beat) _)) ep_Beat) (le_eq (le_eq (le_any (le_any le_nil)))) hc2 (fun found1 p hb1 => (xg_t rfl (xgs_cons xg_n (xgs_cons xg_n xgs_nil)))) (fun found1 p hb1 => (xo_one (xo_let0 (F := (fun s => Out.nx ((fun found1 : Frac => [some ((eT eBeat) row), some (eFrac found1), none, none]) s))) (st := (fun found2 : Frac => [some ((eT eBeat) row), some (eFrac found2), some (eFrac p.1), some (eSg p.2)])) (xn_set (x_call (xs_cons (x_rd rfl) (xs_cons (x_rd rfl) xs_nil)) (pL_cons (ep_Frac _) (pL_cons (ep_Frac _) rfl)) (x__law_plus _ _ hb1))) (fun found2 => (xo_end (le_eq (le_eq (le_any (le_any le_nil)))))))))) (fun found1 => (xo_ret (xr_mv rfl))))))
theorem x_look_at_stand (machine : Mach) (stand : Stand) (h : d_look_at_stand machine stand) : m_look_at_stand [eMach machine, eStand stand] = some (eN (n_look_at_stand machine stand)) :=
  x_fnN (P := [some (eMach machine), some (eStand stand), none, none]) rfl (xo_let (F := (fun (_ : Unit) => Out.nx [none, none, none, none])) (body := fun (good : Bool) => ()) (st := (fun good : Bool => [some (eMach machine), some (eStand stand), some (Val.bl good), none])) (xn_set (x_and (x_call (xs_cons (x_rd rfl) (xs_cons x_c xs_nil)) (pL_cons (ep_Stand _) (pL_cons (ep_i _) rfl)) (x_is_row_of_6 _ _ )) (fun ha2 => (x_and (x_call (xs_cons (x_c2 (x_rd rfl) x_c (ix2_0 ep_i)) (xs_cons x_c (xs_cons x_c xs_nil))) (pL_cons (ep_i _) (pL_cons (ep_i _) (pL_cons (ep_i _) rfl))) (x_is_within _ _ _ )) (fun ha1 => (x_call (xs_cons (x_c2 (x_rd rfl) x_c (ix2_1 (ep_T ep_Frac))) (xs_cons (x_c2 (x_rd rfl) x_c (ix2_0 ep_i)) xs_nil)) (pL_cons ((ep_T ep_Frac) _) (pL_cons (ep_i _) rfl)) (x_is_row_of_7 _ _ ))))))) h (fun good hc5 => (xo_one (xo_seq (xn_assert (xt_or (xt_not (xt_v (x_rd rfl))) (fun ha4 => (xt_not (xt_v (x_cN (xs_cons (x_lc (P := [some (eMach machine), some (eStand stand), some (Val.bl good), none]) (g := eFrac) (e := Val.bl) (f := fun one => (n_is_fraction one)) (tp := fun one => [some (eMach machine), some (eStand stand), some (Val.bl good), some (eFrac one)]) (xi_T (x_c2 (x_rd rfl) x_c (ix2_1 (ep_T ep_Frac))) ep_Frac) (own_ok (own := [3]) rfl) (fun one => fit_le (P := [some (eMach machine), some (eStand stand), some (Val.bl good), none]) (Q := [some (eMach machine), some (eStand stand), some (Val.bl good), some (eFrac one)]) (le_eq (le_eq (le_eq (le_any le_nil)))) (own_ok (own := [3]) rfl)) (fun one hm3 => ⟨xg_n, (x_call (xs_cons (x_rd rfl) xs_nil) (pL_cons (ep_Frac _) rfl) (x_is_fraction _ ((hc5.1 ha4).1 one hm3)))⟩) (hc5.1 ha4).2) xs_nil) (all_l _ _)))))) hc5.2) (xo_end (Q := [none, none, none, none]) (le_any (le_any (le_any (le_any le_nil)))))))))
theorem x_after (machine : Mach) (stand : Stand) (beat : Beat) (h : d_after machine stand beat) : m_after [eMach machine, eStand stand, eBeat beat] = some ((eO eStand) (n_after machine stand beat)) :=
  x_fn (P := [some (eMach machine), some (eStand stand), some (eBeat beat)]) rfl (xo_seq (xn_drop (x_call (xs_cons (x_rd rfl) xs_nil) (pL_cons (ep_Mach _) rfl) (x_look_at_machine _ h.1))) (xo_seq (xn_drop (x_call (xs_cons (x_rd rfl) (xs_cons (x_rd rfl) xs_nil)) (pL_cons (ep_Mach _) (pL_cons (ep_Stand _) rfl)) (x_look_at_stand _ _ h.2.1))) (xo_seq (xn_assert (xt_not (xt_v (x_call (xs_cons (x_rd rfl) xs_nil) (pL_cons (ep_Beat _) rfl) (x_is_beat _ h.2.2.1)))) h.2.2.2.1) (xo_ret (XE.r (x_call (xs_cons (x_rd rfl) (xs_cons (x_frL ep_Stand (x_cN (xs_cons (x_rdE rfl (ep_Stand _)) xs_nil) (mk_O (e := eStand) [stand] (Nat.le_of_ble_eq_true rfl)))) (xs_cons (x_rd rfl) xs_nil))) (pL_cons (ep_Mach _) (pL_cons ((ep_L ep_Stand) _) (pL_cons (ep_Beat _) rfl))) (x_behind _ _ _ h.2.2.2.2)))))))
end LW
end

section
set_option maxHeartbeats 4000000
set_option exponentiation.threshold 10000
/-! fractions -/
namespace RP
open MV PySem
theorem gcd_step {x y : Int} (hx : 0 ≤ x) (hy : 0 < y) : Int.gcd y (x % y) = Int.gcd x y := by
  obtain ⟨a, rfl⟩ := Int.eq_ofNat_of_zero_le hx
  obtain ⟨b, rfl⟩ := Int.eq_ofNat_of_zero_le (Int.le_of_lt hy)
  rw [← Int.natCast_emod]
  simp only [Int.gcd_natCast_natCast]
  rw [Nat.gcd_comm a b, Nat.gcd_rec b a, Nat.gcd_comm]
theorem gcd_while {c : Int × Int → Bool} {f : Int × Int → Int × Int} {d : Int × Int → Prop} (hc : ∀ s, c s = !decide (s.2 = 0)) (hf : ∀ s : Int × Int, f s = (s.2, s.1 % s.2)) (hd : ∀ s : Int × Int, 0 ≤ s.2 → d s) {a b : Int} (ha : 0 ≤ a) (hb : 0 ≤ b) :
    DWhile c f d (a, b) ∧ (whileV c f (a, b)).1 = Int.gcd a b := by
  have h := DWhile.of (c := c) (f := f) (d := d) (fun s => 0 ≤ s.1 ∧ 0 ≤ s.2 ∧ Int.gcd s.1 s.2 = Int.gcd a b) (fun s => s.2.toNat) (fun s ⟨h1, h2, h3⟩ => by
    refine ⟨hd s h2, fun h4 => ?_⟩
    rw [hc] at h4
    have h5 : ¬ s.2 = 0 := by simpa using h4
    have h6 : 0 < s.2 := by omega
    rw [hf]
    have h7 := Int.emod_nonneg s.1 h5
    have h8 := Int.emod_lt_of_pos s.1 h6
    refine ⟨⟨h2, h7, ?_⟩, ?_⟩
    · show Int.gcd s.2 (s.1 % s.2) = _
      rw [gcd_step h1 h6, h3]
    · show (s.1 % s.2).toNat < s.2.toNat
      omega) (s := (a, b)) ⟨ha, hb, rfl⟩
  obtain ⟨h1, ⟨h2, h3, h4⟩, h5⟩ := h
  refine ⟨h1, ?_⟩
  rw [hc] at h5
  have h6 : (whileV c f (a, b)).2 = 0 := by simpa using h5
  rw [h6, Int.gcd_zero_right] at h4
  omega
theorem common_ok {a b : Int} (ha : 0 ≤ a) (hb : 0 ≤ b) : d_common a b ∧ n_common a b = Int.gcd a b :=
  gcd_while (c := c_common_1 a b) (f := n_common_2 a b) (d := d_common_3 a b) (fun _ => rfl) (fun _ => rfl) (fun s hs h => by
    have h1 : ¬ s.2 = 0 := by simpa using h
    omega) ha hb
/-- in lowest terms -/
def lowF (t b : Int) : Frac := (t / (Int.gcd t b : Int), b / (Int.gcd t b : Int))
def addF (x y : Frac) : Frac := lowF (x.1 * y.2 + y.1 * x.2) (x.2 * y.2)
structure Fr (x : Frac) : Prop where
  top : 0 ≤ x.1
  pos : 0 < x.2
  low : Int.gcd x.1 x.2 = 1
def Sm (x : Frac) : Prop := x.1 < 2 ^ 3000 ∧ x.2 < 2 ^ 3000
theorem log_lt {n k : Nat} (h : n < 2 ^ k) (hk : 0 < k) : n.log2 < k := by
  rcases Nat.eq_zero_or_pos n with rfl | h0
  · simpa using hk
  · exact (Nat.log2_lt (by omega)).mpr h
theorem mulOk_of {a b : Int} (ha : 0 ≤ a) (hb : 0 ≤ b) (h1 : a < 2 ^ 3000) (h2 : b < 2 ^ 3000) : mulOk a b = true := by
  obtain ⟨a, rfl⟩ := Int.eq_ofNat_of_zero_le ha
  obtain ⟨b, rfl⟩ := Int.eq_ofNat_of_zero_le hb
  have l1 := log_lt (n := a) (k := 3000) (by exact_mod_cast h1) (by decide)
  have l2 := log_lt (n := b) (k := 3000) (by exact_mod_cast h2) (by decide)
  unfold mulOk
  rw [Bool.or_eq_true]
  right
  rw [decide_eq_true_eq]
  simp only [Int.natAbs_natCast]
  omega
theorem mulOk_small {a b : Int} (h1 : -1000000 ≤ a) (h2 : a ≤ 1000000) : mulOk a b = true := by
  unfold mulOk
  rw [Bool.or_eq_true, Bool.or_eq_true]
  left
  left
  rw [decide_eq_true_eq]
  have : a.natAbs ≤ 1000000 := by omega
  exact Nat.lt_of_le_of_lt this (by decide)
theorem divOk_of {b : Int} (h : 0 < b) (h1 : b < 2 ^ 6000) : divOk b := by
  refine ⟨h, ?_⟩
  obtain ⟨b, rfl⟩ := Int.eq_ofNat_of_zero_le (Int.le_of_lt h)
  have l1 := log_lt (n := b) (k := 6000) (by exact_mod_cast h1) (by decide)
  simp only [Int.natAbs_natCast]
  omega
theorem gcd_pos {t b : Int} (hb : 0 < b) : (0 : Int) < (Int.gcd t b : Int) := by
  have : Int.gcd t b ≠ 0 := fun e => by
    have := Int.gcd_eq_zero_iff.mp e
    omega
  omega
theorem gcd_le {t b : Int} (hb : 0 < b) : (Int.gcd t b : Int) ≤ b := Int.le_of_dvd hb (Int.gcd_dvd_right t b)
theorem lowest_ok {t b : Int} (ht : 0 ≤ t) (hb : 0 < b) (hs : b < 2 ^ 6000) : d_lowest t b ∧ n_lowest t b = lowF t b := by
  obtain ⟨h1, h2⟩ := common_ok ht (Int.le_of_lt hb)
  have hd : divOk (Int.gcd t b : Int) := divOk_of (gcd_pos hb) (Int.lt_of_le_of_lt (gcd_le hb) hs)
  refine ⟨⟨h1, ?_⟩, ?_⟩
  · show divOk (n_common t b) ∧ divOk (n_common t b)
    rw [h2]
    exact ⟨hd, hd⟩
  · show (t / n_common t b, b / n_common t b) = lowF t b
    rw [h2]
    rfl
theorem lowF_fr {t b : Int} (ht : 0 ≤ t) (hb : 0 < b) : Fr (lowF t b) := by
  have hg := gcd_pos (t := t) hb
  refine ⟨Int.ediv_nonneg ht (Int.le_of_lt hg), ?_, ?_⟩
  · obtain ⟨k, hk⟩ := Int.gcd_dvd_right t b
    show 0 < b / (Int.gcd t b : Int)
    refine Int.ediv_pos_of_pos_of_dvd hb (Int.le_of_lt hg) (Int.gcd_dvd_right t b)
  · show Int.gcd (t / (Int.gcd t b : Int)) (b / (Int.gcd t b : Int)) = 1
    exact Int.gcd_ediv_gcd_ediv_gcd (by omega)
theorem lowF_worth {t b : Int} (hb : 0 < b) : (lowF t b).1 * b = t * (lowF t b).2 := by
  obtain ⟨k, hk⟩ := Int.gcd_dvd_left t b
  obtain ⟨l, hl⟩ := Int.gcd_dvd_right t b
  have hg := gcd_pos (t := t) hb
  generalize hG : (Int.gcd t b : Int) = g at hk hl hg
  have e1 : (lowF t b).1 = k := by
    show t / (Int.gcd t b : Int) = k
    rw [hG, hk]
    exact Int.mul_ediv_cancel_left k (by omega)
  have e2 : (lowF t b).2 = l := by
    show b / (Int.gcd t b : Int) = l
    rw [hG, hl]
    exact Int.mul_ediv_cancel_left l (by omega)
  rw [e1, e2, hk, hl, ← Int.mul_assoc, Int.mul_comm k g]
theorem lowF_of_low {t b : Int} (h : Int.gcd t b = 1) : lowF t b = (t, b) := by
  unfold lowF
  rw [h]
  simp
theorem lowF_le {t b : Int} (ht : 0 ≤ t) (hb : 0 < b) : (lowF t b).1 ≤ t ∧ (lowF t b).2 ≤ b := by
  have hg := gcd_pos (t := t) hb
  exact ⟨Int.ediv_le_self _ ht, Int.ediv_le_self _ (Int.le_of_lt hb)⟩
/-- what divides: a sum's denominator -/
theorem lowF_dvd {t b L m : Int} (hb : 0 < b) (h : L * t = b * m) : (lowF t b).2 ∣ L := by
  obtain ⟨k, hk⟩ := Int.gcd_dvd_left t b
  obtain ⟨l, hl⟩ := Int.gcd_dvd_right t b
  have hg := gcd_pos (t := t) hb
  have low : Int.gcd (t / (Int.gcd t b : Int)) (b / (Int.gcd t b : Int)) = 1 := Int.gcd_ediv_gcd_ediv_gcd (by omega)
  show b / (Int.gcd t b : Int) ∣ L
  generalize hG : (Int.gcd t b : Int) = g at hk hl hg low ⊢
  have e1 : t / g = k := by
    rw [hk]
    exact Int.mul_ediv_cancel_left k (by omega)
  have e2 : b / g = l := by
    rw [hl]
    exact Int.mul_ediv_cancel_left l (by omega)
  rw [e1, e2] at low
  rw [e2]
  have e3 : L * k = l * m := by
    have : g * (L * k) = g * (l * m) := by
      calc g * (L * k) = L * (g * k) := by rw [← Int.mul_assoc, Int.mul_comm g L, Int.mul_assoc]
        _ = L * t := by rw [← hk]
        _ = b * m := h
        _ = g * l * m := by rw [← hl]
        _ = g * (l * m) := Int.mul_assoc _ _ _
    exact Int.eq_of_mul_eq_mul_left (by omega) this
  have e4 : l ∣ L * k := ⟨m, e3⟩
  have e5 : l.natAbs ∣ L.natAbs * k.natAbs := by
    rw [← Int.natAbs_mul]
    exact Int.natAbs_dvd_natAbs.mpr e4
  have e6 : Nat.Coprime l.natAbs k.natAbs := by
    rw [Nat.coprime_comm]
    exact low
  exact Int.natAbs_dvd_natAbs.mp (e6.dvd_of_dvd_mul_right e5)
theorem addF_dvd {x y : Frac} {L : Int} (hx : 0 < x.2) (hy : 0 < y.2) (h1 : x.2 ∣ L) (h2 : y.2 ∣ L) : (addF x y).2 ∣ L := by
  obtain ⟨k, hk⟩ := h1
  obtain ⟨l, hl⟩ := h2
  refine lowF_dvd (m := k * x.1 + l * y.1) (Int.mul_pos hx hy) ?_
  rw [Int.mul_add, Int.mul_add]
  congr 1
  · calc L * (x.1 * y.2) = x.2 * k * (x.1 * y.2) := by rw [← hk]
      _ = x.2 * y.2 * (k * x.1) := by
        simp only [Int.mul_assoc, Int.mul_comm, Int.mul_left_comm]
  · calc L * (y.1 * x.2) = y.2 * l * (y.1 * x.2) := by rw [← hl]
      _ = x.2 * y.2 * (l * y.1) := by
        simp only [Int.mul_assoc, Int.mul_comm, Int.mul_left_comm]
theorem addF_fr {x y : Frac} (hx : Fr x) (hy : Fr y) : Fr (addF x y) :=
  lowF_fr (Int.add_nonneg (Int.mul_nonneg hx.top (Int.le_of_lt hy.pos)) (Int.mul_nonneg hy.top (Int.le_of_lt hx.pos))) (Int.mul_pos hx.pos hy.pos)
/-- at most m -/
def AtM (x : Frac) (m : Int) : Prop := x.1 ≤ m * x.2
theorem lowF_at {t b m : Int} (ht : 0 ≤ t) (hb : 0 < b) (h : t ≤ m * b) : AtM (lowF t b) m := by
  have w := lowF_worth (t := t) hb
  have p := (lowF_fr ht hb).pos
  unfold AtM
  refine Int.le_of_mul_le_mul_right (a := b) ?_ hb
  rw [w, Int.mul_assoc, Int.mul_comm (lowF t b).2 b, ← Int.mul_assoc]
  exact Int.mul_le_mul_of_nonneg_right h (Int.le_of_lt p)
theorem addF_at {x y : Frac} {m n : Int} (hx : Fr x) (hy : Fr y) (h1 : AtM x m) (h2 : AtM y n) : AtM (addF x y) (m + n) := by
  refine lowF_at (Int.add_nonneg (Int.mul_nonneg hx.top (Int.le_of_lt hy.pos)) (Int.mul_nonneg hy.top (Int.le_of_lt hx.pos))) (Int.mul_pos hx.pos hy.pos) ?_
  have a1 : x.1 * y.2 ≤ m * x.2 * y.2 := Int.mul_le_mul_of_nonneg_right h1 (Int.le_of_lt hy.pos)
  have a2 : y.1 * x.2 ≤ n * y.2 * x.2 := Int.mul_le_mul_of_nonneg_right h2 (Int.le_of_lt hx.pos)
  have e : (m + n) * (x.2 * y.2) = m * x.2 * y.2 + n * y.2 * x.2 := by
    rw [Int.add_mul, Int.mul_assoc, Int.mul_assoc, Int.mul_comm y.2 x.2]
  rw [e]
  exact Int.add_le_add a1 a2
theorem plus_ok {x y : Frac} (hx : Fr x) (hy : Fr y) (sx : Sm x) (sy : Sm y) : d_plus x y ∧ n_plus x y = addF x y := by
  have t0 : 0 ≤ x.1 * y.2 + y.1 * x.2 := Int.add_nonneg (Int.mul_nonneg hx.top (Int.le_of_lt hy.pos)) (Int.mul_nonneg hy.top (Int.le_of_lt hx.pos))
  have b0 := Int.mul_pos hx.pos hy.pos
  have bs : x.2 * y.2 < 2 ^ 6000 := by
    have e : (2 : Int) ^ 6000 = 2 ^ 3000 * 2 ^ 3000 := by rw [← Int.pow_add]
    rw [e]
    exact Int.mul_lt_mul sx.2 (Int.le_of_lt sy.2) hy.pos (Int.pow_nonneg (by decide))
  obtain ⟨h1, h2⟩ := lowest_ok t0 b0 bs
  exact ⟨⟨mulOk_of hx.top (Int.le_of_lt hy.pos) sx.1 sy.2, mulOk_of hy.top (Int.le_of_lt hx.pos) sy.1 sx.2, mulOk_of (Int.le_of_lt hx.pos) (Int.le_of_lt hy.pos) sx.2 sy.2, h1⟩, h2⟩
theorem fraction_ok {x : Frac} (h : Fr x) : d_is_fraction x ∧ n_is_fraction x = true := by
  obtain ⟨h1, h2⟩ := common_ok h.top (Int.le_of_lt h.pos)
  refine ⟨⟨fun _ => by rw [sizeLine_eq]; exact (by decide : 2 ≤ 16777216), fun _ _ _ => h1⟩, ?_⟩
  have e1 : decide ((0 : Int) ≤ x.1) = true := decide_eq_true h.top
  have e2 : decide ((1 : Int) ≤ x.2) = true := decide_eq_true h.pos
  have e3 : decide (n_common x.1 x.2 = (1 : Int)) = true := decide_eq_true (by rw [h2, h.low]; rfl)
  simp [n_is_fraction, n_is_row_of_0, e1, e2, e3]
/-- a bound -/
structure VB (b : Bound) : Prop where
  lo0 : 0 ≤ b.1
  lo4 : b.1 ≤ 4
  le : b.1 ≤ b.2.2.1
  hi5 : b.2.2.1 ≤ 5
  far : b.2.2.1 = 5 → b.2.2.2 = false
  eq : b.2.2.1 = 5 ∨ b.1 < b.2.2.1 ∨ (b.1 = b.2.2.1 ∧ b.2.1 = true ∧ b.2.2.2 = true)
theorem bound_ok {b : Bound} (h : VB b) : n_is_bound b = true := by
  obtain ⟨h1, h2, h3, h4, h5, h6⟩ := h
  obtain ⟨l, wl, u, wu⟩ := b
  dsimp only at *
  by_cases c : u = 5
  · subst c
    simp [n_is_bound, n_is_row_of_1, n_is_within, h1, h2, h3, h5]
  · have : l < u ∨ (wl = true ∧ wu = true) := by
      rcases h6 with h | h | h
      · exact absurd h c
      · exact .inl h
      · exact .inr h.2
    simp [n_is_bound, n_is_row_of_1, n_is_within, h1, h2, h3, h4, c]
    exact this
theorem keeps_ok {x : Frac} {b : Bound} (hb : VB b) : d_keeps x b :=
  ⟨mulOk_small (by have := hb.lo0; omega) (by have := hb.lo4; omega), mulOk_small (by have := hb.lo0; have := hb.le; omega) (by have := hb.hi5; omega)⟩
end RP
end

section
set_option maxHeartbeats 4000000
/-! machines; lists that rise -/
namespace RP
open MV PySem
theorem lt_ne {α : Type} {e : α → Val} {a b : α} (h : ltB (e a) (e b) = true) : a ≠ b := fun z => by
  subst z
  rw [ltB_irr] at h
  cases h
theorem dedX_self {α : Type} [DecidableEq α] : ∀ {xs : List α}, xs.Nodup → dedX xs = xs
  | [], _ => rfl
  | x :: r, h => by
    rw [List.nodup_cons] at h
    rw [dedX, dedX_self h.2, List.filter_eq_self.mpr fun y hy => ?_]
    simp only [ne_eq, decide_not, Bool.not_eq_true', decide_eq_false_iff_not]
    exact fun e => h.1 (e ▸ hy)
/-- ascending: sorted(set(xs)) is xs -/
theorem setX_self {α : Type} [DecidableEq α] {e : α → Val} {xs : List α} (h : xs.Pairwise fun a b => ltB (e a) (e b) = true) : setX e xs = xs := by
  have nd : xs.Nodup := h.imp fun {a b} z => lt_ne z
  unfold setX sortX
  rw [dedX_self nd]
  exact List.mergeSort_of_pairwise (h.imp fun {a b} z => ltB_le z)
theorem dedX_len {α : Type} [DecidableEq α] : ∀ xs : List α, (dedX xs).length ≤ xs.length
  | [] => Nat.le_refl _
  | x :: r => by
    rw [dedX, List.length_cons, List.length_cons]
    exact Nat.succ_le_succ (Nat.le_trans (List.length_filter_le _ _) (dedX_len r))
theorem setX_self_int {xs : List Int} (h : xs.Pairwise (· < ·)) : setX Val.int xs = xs := setX_self (h.imp fun {a b} z => by rw [ltB_int]; exact decide_eq_true z)
/-- an edge for c clocks -/
structure VE (c : Int) (e : Edge) : Prop where
  p0 : 0 ≤ e.1
  p3 : e.1 ≤ 3
  bl : (e.2.2.1.length : Int) = c
  bv : ∀ b ∈ e.2.2.1, VB b
  nl : e.2.2.2.1.Pairwise (· < ·)
  nm : ∀ i ∈ e.2.2.2.1, 0 ≤ i ∧ i < c
  g0 : 0 ≤ e.2.2.2.2
  g3 : e.2.2.2.2 ≤ 3
structure VM (m : Mach) : Prop where
  cl : m.1 = 1 ∨ m.1 = 2
  l1 : 1 ≤ m.2.length
  l6 : m.2.length ≤ 6
  ev : ∀ e ∈ m.2, VE m.1 e
  srt : m.2.Pairwise fun a b => ltB (eEdge a) (eEdge b) = true
theorem VE.nlen {c : Int} {e : Edge} (h : VE c e) : e.2.2.2.1.length ≤ c.toNat := by
  have := MV.nodup_le e.2.2.2.1 (rngX 0 c) (h.nl.imp fun {a b} z => by omega) fun x hx => rngX_mem.mpr (h.nm x hx)
  rw [rngX_len] at this
  simpa using this
theorem sg_ok (s : Sg) : n_is_sign s = true := by cases s <;> decide
theorem all_map_true {α : Type} {f : α → Bool} {xs : List α} (h : ∀ x ∈ xs, f x = true) : (xs.map fun x => f x).all id = true := by
  rw [List.all_map]
  exact List.all_eq_true.mpr h
theorem within_ok {v lo hi : Int} (h1 : lo ≤ v) (h2 : v ≤ hi) : n_is_within v lo hi = true := by simp [n_is_within, h1, h2]
theorem edge_ok {c : Int} {e : Edge} (hc : c = 1 ∨ c = 2) (h : VE c e) : d_is_edge c e ∧ n_is_edge c e = true := by
  have hn := h.nlen
  have hb := h.bl
  constructor
  · refine fun _ => ⟨fun _ => ?_, fun _ => ⟨fun _ => ?_, fun _ => ?_⟩⟩
    · rw [sizeLine_eq]; omega
    · rw [sizeLine_eq]; omega
    · omega
  · have e1 := within_ok h.p0 h.p3
    have e2 := within_ok h.g0 h.g3
    have e3 : (e.2.2.1.map fun b => n_is_bound b).all id = true := all_map_true fun b hb => bound_ok (h.bv b hb)
    have e4 : (e.2.2.2.1.map fun i => n_is_within i 0 (c - 1)).all id = true := all_map_true fun i hi => within_ok (h.nm i hi).1 (by have := (h.nm i hi).2; omega)
    have e5 : n_is_row_of_3 e.2.2.1 c = true := by simp [n_is_row_of_3, hb]
    unfold n_is_edge
    rw [e1, sg_ok, e5, e3, e4, e2, setX_self_int h.nl]
    simp [n_is_row_of_2]
theorem machine_ok {m : Mach} (h : VM m) : d_look_at_machine m := by
  have hc := h.cl
  have l1 := h.l1
  have l6 := h.l6
  have e3 : (m.2.map fun e => n_is_edge m.1 e).all id = true := all_map_true fun e he => (edge_ok hc (h.ev e he)).2
  have e1 : n_is_within m.1 1 2 = true := within_ok (by omega) (by omega)
  refine ⟨fun _ => ⟨fun _ => ⟨fun e he => (edge_ok hc (h.ev e he)).1, by rw [sizeLine_eq]; omega⟩, fun _ => ?_⟩, ?_⟩
  · have := dedX_len m.2
    omega
  · have a1 : decide ((1 : Int) ≤ (m.2.length : Int)) = true := decide_eq_true (by omega)
    have a2 : decide ((m.2.length : Int) ≤ 6) = true := decide_eq_true (by omega)
    unfold n_is_machine
    rw [e1, e3, a1, a2, setX_self h.srt]
    simp [n_is_row_of_4]
/-! loops that add to a list -/
theorem forV_app {α β : Type} {f : List β → α → List β} {g : α → List β} : ∀ {xs : List α} {s : List β}, (∀ s x, x ∈ xs → f s x = s ++ g x) → forV xs s f = s ++ xs.flatMap g
  | [], s, _ => by simp
  | x :: r, s, h => by
    show forV r (f s x) f = _
    rw [forV_app fun s y hy => h s y (List.mem_cons_of_mem _ hy), h s x List.mem_cons_self, List.flatMap_cons, List.append_assoc]
theorem DFor_app {α β : Type} {f : List β → α → List β} {d : List β → α → Prop} {g : α → List β} {k N : Nat} : ∀ {xs : List α} {s : List β}, (∀ s x, x ∈ xs → f s x = s ++ g x) → (∀ x ∈ xs, (g x).length ≤ k) →
    (∀ s x, x ∈ xs → s.length + k ≤ N → d s x) → s.length + k * xs.length ≤ N → DFor xs s f d
  | [], s, _, _, _, _ => trivial
  | x :: r, s, h, hg, hd, hl => by
    rw [List.length_cons, Nat.mul_add] at hl
    refine ⟨hd s x List.mem_cons_self (by omega), ?_⟩
    refine DFor_app (fun s y hy => h s y (List.mem_cons_of_mem _ hy)) (fun y hy => hg y (List.mem_cons_of_mem _ hy)) (fun s y hy => hd s y (List.mem_cons_of_mem _ hy)) ?_
    rw [h s x List.mem_cons_self, List.length_append]
    have := hg x List.mem_cons_self
    omega
theorem flatMap_len {α β : Type} {g : α → List β} {k : Nat} : ∀ {xs : List α}, (∀ x ∈ xs, (g x).length ≤ k) → (xs.flatMap g).length ≤ k * xs.length
  | [], _ => by simp
  | x :: r, h => by
    rw [List.flatMap_cons, List.length_append, List.length_cons, Nat.mul_add]
    have := h x List.mem_cons_self
    have := flatMap_len (xs := r) fun y hy => h y (List.mem_cons_of_mem _ hy)
    omega
/-! loops that fill a dict -/
theorem forV_keys {α κ ν : Type} [DecidableEq κ] {f : List (κ × ν) → α → List (κ × ν)} {g : α → List κ} : ∀ {xs : List α} {s : List (κ × ν)}, (s.map (·.1)).Nodup →
    (∀ s x, x ∈ xs → (s.map (·.1)).Nodup → ((f s x).map (·.1)).Nodup ∧ ∀ k, k ∈ (f s x).map (·.1) ↔ k ∈ s.map (·.1) ∨ k ∈ g x) →
    ((forV xs s f).map (·.1)).Nodup ∧ ∀ k, k ∈ (forV xs s f).map (·.1) ↔ k ∈ s.map (·.1) ∨ k ∈ xs.flatMap g
  | [], s, nd, _ => ⟨nd, fun k => by simp⟩
  | x :: r, s, nd, h => by
    obtain ⟨h1, h2⟩ := h s x List.mem_cons_self nd
    obtain ⟨h3, h4⟩ := forV_keys (xs := r) h1 fun s y hy => h s y (List.mem_cons_of_mem _ hy)
    refine ⟨h3, fun k => ?_⟩
    show k ∈ (forV r (f s x) f).map (·.1) ↔ _
    rw [h4, h2, List.flatMap_cons, List.mem_append, or_assoc]
theorem DFor_len {α σ : Type} {f : List σ → α → List σ} {d : List σ → α → Prop} {k N : Nat} : ∀ {xs : List α} {s : List σ}, (∀ s x, x ∈ xs → (f s x).length ≤ s.length + k) → (∀ s x, x ∈ xs → s.length + k ≤ N → d s x) → s.length + k * xs.length ≤ N → DFor xs s f d
  | [], s, _, _, _ => trivial
  | x :: r, s, h, hd, hl => by
    rw [List.length_cons, Nat.mul_add] at hl
    refine ⟨hd s x List.mem_cons_self (by omega), DFor_len (fun s y hy => h s y (List.mem_cons_of_mem _ hy)) (fun s y hy => hd s y (List.mem_cons_of_mem _ hy)) ?_⟩
    have := h s x List.mem_cons_self
    omega
theorem forV_len {α σ : Type} {f : List σ → α → List σ} {k : Nat} : ∀ {xs : List α} {s : List σ}, (∀ s x, x ∈ xs → (f s x).length ≤ s.length + k) → (forV xs s f).length ≤ s.length + k * xs.length
  | [], s, _ => by simp
  | x :: r, s, h => by
    have h1 := h s x List.mem_cons_self
    have h2 := forV_len (xs := r) (s := f s x) fun s y hy => h s y (List.mem_cons_of_mem _ hy)
    rw [List.length_cons, Nat.mul_add]
    show (forV r (f s x) f).length ≤ _
    omega
end RP
end

section
set_option maxHeartbeats 4000000
/-! stands behind a beat -/
namespace RP
open MV PySem
noncomputable def keepsAll (vs : List Frac) (bs : List Bound) : Bool := (vs.zip bs).all fun q => n_keeps q.1 q.2
def restF (vs : List Frac) (nulls : List Int) : List Frac := (enumX 0 vs).map fun q => cond (decide (q.1 ∈ nulls)) (0, 1) q.2
noncomputable def fireF (vs : List Frac) (p : Stand) (sg : Sg) (e : Edge) : List Stand := cond (decide ((e.1, e.2.1) = (p.1, sg)) && keepsAll vs e.2.2.1) [(e.2.2.2.2, restF vs e.2.2.2.1)] []
noncomputable def nxt (m : Mach) (b : Beat) (p : Stand) : List Stand := m.2.flatMap (fireF (p.2.map fun v => addF v b.1) p b.2)
noncomputable def nxts (m : Mach) (ss : List Stand) (b : Beat) : List Stand := ss.flatMap (nxt m b)
structure VS (m : Mach) (p : Stand) : Prop where
  p0 : 0 ≤ p.1
  p3 : p.1 ≤ 3
  len : (p.2.length : Int) = m.1
  fr : ∀ v ∈ p.2, Fr v
  sm : ∀ v ∈ p.2, Sm v
theorem fireF_len (vs : List Frac) (p : Stand) (sg : Sg) (e : Edge) : (fireF vs p sg e).length ≤ 1 := by
  unfold fireF
  cases (decide ((e.1, e.2.1) = (p.1, sg)) && keepsAll vs e.2.2.1) <;> simp
theorem nxt_len {m : Mach} (hm : VM m) (b : Beat) (p : Stand) : (nxt m b p).length ≤ 6 := by
  have := flatMap_len (g := fireF (p.2.map fun v => addF v b.1) p b.2) (k := 1) (xs := m.2) fun e _ => fireF_len _ _ _ e
  have := hm.l6
  unfold nxt
  omega
theorem enumX_len {α : Type} : ∀ (k : Nat) (xs : List α), (enumX k xs).length = xs.length
  | _, [] => rfl
  | k, x :: r => congrArg (· + 1) (enumX_len (k + 1) r)
theorem restF_len (vs : List Frac) (nulls : List Int) : (restF vs nulls).length = vs.length := by
  unfold restF
  rw [List.length_map, enumX_len]
theorem enumX_snd {α : Type} : ∀ (k : Nat) (xs : List α) (q : Int × α), q ∈ enumX k xs → q.2 ∈ xs
  | _, [], _, h => nomatch h
  | k, x :: r, q, h => by
    rcases List.mem_cons.mp h with rfl | h
    · exact List.mem_cons_self
    · exact List.mem_cons_of_mem _ (enumX_snd (k + 1) r q h)
theorem restF_mem {vs : List Frac} {nulls : List Int} {v : Frac} (h : v ∈ restF vs nulls) : v = (0, 1) ∨ v ∈ vs := by
  obtain ⟨q, hq, rfl⟩ := List.mem_map.mp h
  cases decide (q.1 ∈ nulls) with
  | true => exact .inl rfl
  | false => exact .inr (enumX_snd 0 vs q hq)
theorem nxt_mem {m : Mach} {b : Beat} {p q : Stand} (h : q ∈ nxt m b p) : ∃ e ∈ m.2, q = (e.2.2.2.2, restF (p.2.map fun v => addF v b.1) e.2.2.2.1) := by
  obtain ⟨e, he, h⟩ := List.mem_flatMap.mp h
  refine ⟨e, he, ?_⟩
  unfold fireF at h
  cases c : (decide ((e.1, e.2.1) = (p.1, b.2)) && keepsAll (p.2.map fun v => addF v b.1) e.2.2.1) with
  | false => rw [c] at h; cases h
  | true =>
    rw [c] at h
    exact List.mem_singleton.mp h
theorem map_plus {m : Mach} {b : Beat} {p : Stand} (hp : VS m p) (hb : Fr b.1) (sb : Sm b.1) : (p.2.map fun v => n_plus v b.1) = p.2.map fun v => addF v b.1 :=
  List.map_congr_left fun v hv => (plus_ok (hp.fr v hv) hb (hp.sm v hv) sb).2
theorem all_zip (vs : List Frac) (bs : List Bound) : ((vs.zip bs).map fun q => n_keeps q.1 q.2).all id = keepsAll vs bs := by
  rw [List.all_map]
  rfl
theorem zip_snd_mem {α β : Type} {q : α × β} {xs : List α} {ys : List β} (h : q ∈ xs.zip ys) : q.2 ∈ ys := (List.of_mem_zip h).2
theorem behind_ok {m : Mach} (hm : VM m) {ss : List Stand} {b : Beat} (hs : ∀ p ∈ ss, VS m p) (hb : Fr b.1) (sb : Sm b.1) (hl : ss.length ≤ 1000000) (hd : (dedX (nxts m ss b)).length ≤ 4000) :
    d_behind m ss b ∧ n_behind m ss b = setX eStand (nxts m ss b) := by
  have inner : ∀ (found s : List Stand) (p : Stand), p ∈ ss → ∀ e ∈ m.2, n_behind_1 m ss b b [] found p (p.2.map fun v => addF v b.1) s e = s ++ fireF (p.2.map fun v => addF v b.1) p b.2 e := by
    intro found s p hp e he
    show cond ((decide ((e.1, e.2.1) = (p.1, b.2))) && ((((p.2.map fun v => addF v b.1).zip e.2.2.1).map fun q => n_keeps q.1 q.2).all id)) (s ++ [(e.2.2.2.2, restF (p.2.map fun v => addF v b.1) e.2.2.2.1)]) s = _
    rw [all_zip]
    unfold fireF
    cases (decide ((e.1, e.2.1) = (p.1, b.2)) && keepsAll (p.2.map fun v => addF v b.1) e.2.2.1) with
    | true => rfl
    | false => exact (List.append_nil s).symm
  have outer : ∀ (s : List Stand) (p : Stand), p ∈ ss → n_behind_3 m ss b b [] s p = s ++ nxt m b p := by
    intro s p hp
    show forV m.2 s (n_behind_1 m ss b b [] s p (p.2.map fun v => n_plus v b.1)) = _
    rw [map_plus (hs p hp) hb sb]
    exact forV_app fun t e he => inner s t p hp e he
  have l6 := hm.l6
  have fin : forV ss [] (n_behind_3 m ss b b []) = nxts m ss b := by
    rw [forV_app outer, List.nil_append]
    rfl
  refine ⟨⟨?_, ?_⟩, ?_⟩
  · refine DFor_app (g := nxt m b) (k := 6) (N := 16000000) outer (fun p _ => nxt_len hm b p) (fun s p hp hN => ?_) (by simp; omega)
    refine ⟨fun v hv => (plus_ok ((hs p hp).fr v hv) hb ((hs p hp).sm v hv) sb).1, ?_, ?_⟩
    · have h1 := (hs p hp).len
      have h2 := hm.cl
      rw [sizeLine_eq]; omega
    · show DFor m.2 s (n_behind_1 m ss b b [] s p (p.2.map fun v => n_plus v b.1)) (d_behind_2 m ss b b [] s p (p.2.map fun v => n_plus v b.1))
      rw [map_plus (hs p hp) hb sb]
      refine DFor_app (g := fireF (p.2.map fun v => addF v b.1) p b.2) (k := 1) (N := 16000010) (fun t e he => inner s t p hp e he) (fun e _ => fireF_len _ _ _ e) (fun t e he hN2 => ?_) (by omega)
      have hlen : ((p.2.map fun v => addF v b.1).length : Int) = m.1 := by rw [List.length_map]; exact (hs p hp).len
      have h2 := hm.cl
      refine ⟨fun _ => ⟨fun q hq => keeps_ok ((hm.ev e he).bv q.2 (zip_snd_mem hq)), ?_⟩, fun _ => ⟨?_, ?_⟩⟩
      · rw [List.length_zip, sizeLine_eq]; omega
      · rw [enumX_len, sizeLine_eq]; omega
      · show t.length < sizeLine
        rw [sizeLine_eq]; omega
  · show (dedX (forV ss [] (n_behind_3 m ss b b []))).length ≤ 4000
    rw [fin]
    exact hd
  · show setX eStand (forV ss [] (n_behind_3 m ss b b [])) = _
    rw [fin]
end RP
end

section
set_option maxHeartbeats 4000000
/-! the laws' fractions, bounds and stands -/
namespace RP
open MV PySem
theorem law_low_ok {t b : Int} (ht : 0 ≤ t) (hb : 0 < b) (hs : b < 2 ^ 6000) : d__law_low t b ∧ n__law_low t b = lowF t b := by
  obtain ⟨h1, h2⟩ := gcd_while (c := c__law_low_1 t b (t, b)) (f := n__law_low_2 t b (t, b)) (d := d__law_low_3 t b (t, b)) (fun _ => rfl) (fun _ => rfl) (fun s hs h => by
    have h1 : ¬ s.2 = 0 := by simpa using h
    omega) ht (Int.le_of_lt hb)
  have hd : divOk (Int.gcd t b : Int) := divOk_of (gcd_pos hb) (Int.lt_of_le_of_lt (gcd_le hb) hs)
  refine ⟨⟨h1, ?_⟩, ?_⟩
  · show divOk (whileV (c__law_low_1 t b (t, b)) (n__law_low_2 t b (t, b)) (t, b)).1 ∧ divOk (whileV (c__law_low_1 t b (t, b)) (n__law_low_2 t b (t, b)) (t, b)).1
    rw [h2]
    exact ⟨hd, hd⟩
  · show (t / (whileV (c__law_low_1 t b (t, b)) (n__law_low_2 t b (t, b)) (t, b)).1, b / (whileV (c__law_low_1 t b (t, b)) (n__law_low_2 t b (t, b)) (t, b)).1) = lowF t b
    rw [h2]
    rfl
theorem law_plus_ok {x y : Frac} (hx : Fr x) (hy : Fr y) (sx : Sm x) (sy : Sm y) : d__law_plus x y ∧ n__law_plus x y = addF x y := by
  have t0 : 0 ≤ x.1 * y.2 + y.1 * x.2 := Int.add_nonneg (Int.mul_nonneg hx.top (Int.le_of_lt hy.pos)) (Int.mul_nonneg hy.top (Int.le_of_lt hx.pos))
  have b0 := Int.mul_pos hx.pos hy.pos
  have bs : x.2 * y.2 < 2 ^ 6000 := by
    have e : (2 : Int) ^ 6000 = 2 ^ 3000 * 2 ^ 3000 := by rw [← Int.pow_add]
    rw [e]
    exact Int.mul_lt_mul sx.2 (Int.le_of_lt sy.2) hy.pos (Int.pow_nonneg (by decide))
  obtain ⟨h1, h2⟩ := law_low_ok t0 b0 bs
  exact ⟨⟨mulOk_of hx.top (Int.le_of_lt hy.pos) sx.1 sy.2, mulOk_of hy.top (Int.le_of_lt hx.pos) sy.1 sx.2, mulOk_of (Int.le_of_lt hx.pos) (Int.le_of_lt hy.pos) sx.2 sy.2, h1⟩, h2⟩
theorem kept_ok {x : Frac} {b : Bound} (hb : VB b) : d__law_kept x b ∧ n__law_kept x b = n_keeps x b := by
  have m1 : mulOk b.1 x.2 = true := mulOk_small (by have := hb.lo0; omega) (by have := hb.lo4; omega)
  have m2 : mulOk b.2.2.1 x.2 = true := mulOk_small (by have := hb.lo0; have := hb.le; omega) (by have := hb.hi5; omega)
  refine ⟨⟨m1, fun _ => m1, fun _ _ => ⟨m2, fun _ => m2⟩⟩, ?_⟩
  show cond ((decide (x.1 < b.1 * x.2)) || ((decide (x.1 = b.1 * x.2)) && (!b.2.1))) false ((decide (b.2.2.1 = 5)) || ((decide (x.1 < b.2.2.1 * x.2)) || ((decide (x.1 = b.2.2.1 * x.2)) && b.2.2.2))) =
    cond ((decide (x.1 - b.1 * x.2 < 0)) || ((decide (x.1 - b.1 * x.2 = 0)) && (!b.2.1))) false ((decide (b.2.2.1 = 5)) || ((decide (0 < b.2.2.1 * x.2 - x.1)) || ((decide (b.2.2.1 * x.2 - x.1 = 0)) && b.2.2.2)))
  generalize b.1 * x.2 = A
  generalize b.2.2.1 * x.2 = B
  rw [decide_eq_decide.mpr (show x.1 - A < 0 ↔ x.1 < A by omega), decide_eq_decide.mpr (show x.1 - A = 0 ↔ x.1 = A by omega), decide_eq_decide.mpr (show 0 < B - x.1 ↔ x.1 < B by omega), decide_eq_decide.mpr (show B - x.1 = 0 ↔ x.1 = B by omega)]
/-- one or two clocks -/
theorem two_cases {α : Type} {xs : List α} {c : Int} (hc : c = 1 ∨ c = 2) (h : (xs.length : Int) = c) : (c = 1 ∧ ∃ a, xs = [a]) ∨ (c = 2 ∧ ∃ a b, xs = [a, b]) := by
  match xs, h with
  | [], h => simp at h; omega
  | [a], h => exact .inl ⟨by simp at h; omega, a, rfl⟩
  | [a, b], h => exact .inr ⟨by simp at h; omega, a, b, rfl⟩
  | _ :: _ :: _ :: _, h => simp at h; omega
theorem rng_1 : rngX 0 1 = [0] := rfl
theorem rng_2 : rngX 0 2 = [0, 1] := rfl
theorem bad_eq {c : Int} (hc : c = 1 ∨ c = 2) {now : List Frac} {bs : List Bound} (h1 : (now.length : Int) = c) (h2 : (bs.length : Int) = c) (hv : ∀ b ∈ bs, VB b) :
    decide ((((rngX 0 c).filter fun i => !(n__law_kept (getI now i) (getI bs i))).map fun i => i) = ([] : List Int)) = keepsAll now bs := by
  rcases two_cases hc h1 with ⟨rfl, a, rfl⟩ | ⟨rfl, a, a', rfl⟩
  · rcases two_cases hc h2 with ⟨_, b, rfl⟩ | ⟨z, _⟩
    · have e := (kept_ok (x := a) (hv b (by simp))).2
      have g1 : getI [a] 0 = a := rfl
      have g2 : getI [b] 0 = b := rfl
      rw [rng_1]
      simp only [List.filter_cons, List.filter_nil, g1, g2, e, keepsAll, List.zip_cons_cons, List.zip_nil_right, List.all_cons, List.all_nil]
      cases n_keeps a b <;> simp
    · cases z
  · rcases two_cases hc h2 with ⟨z, _⟩ | ⟨_, b, b', rfl⟩
    · cases z
    · have e := (kept_ok (x := a) (hv b (by simp))).2
      have e' := (kept_ok (x := a') (hv b' (by simp))).2
      have g1 : getI [a, a'] 0 = a := rfl
      have g2 : getI [b, b'] 0 = b := rfl
      have g3 : getI [a, a'] 1 = a' := rfl
      have g4 : getI [b, b'] 1 = b' := rfl
      rw [rng_2]
      simp only [List.filter_cons, List.filter_nil, g1, g2, g3, g4, e, e', keepsAll, List.zip_cons_cons, List.zip_nil_right, List.all_cons, List.all_nil]
      cases n_keeps a b <;> cases n_keeps a' b' <;> simp
theorem rest_eq {c : Int} (hc : c = 1 ∨ c = 2) {now : List Frac} (h1 : (now.length : Int) = c) (nulls : List Int) : ((rngX 0 c).map fun i => cond (decide (i ∈ nulls)) ((0 : Int), (1 : Int)) (getI now i)) = restF now nulls := by
  rcases two_cases hc h1 with ⟨rfl, a, rfl⟩ | ⟨rfl, a, a', rfl⟩
  · rfl
  · rfl
theorem inI_rng {α : Type} {xs : List α} {c i : Int} (h : (xs.length : Int) = c) (hi : i ∈ rngX 0 c) : InI xs i := by
  have := rngX_mem.mp hi
  exact ⟨by omega, by omega⟩
theorem law_behind_ok {m : Mach} (hm : VM m) {ss : List Stand} {b : Beat} (hs : ∀ p ∈ ss, VS m p) (hb : Fr b.1) (sb : Sm b.1) (hl : ss.length ≤ 1000000) :
    d__law_behind m ss b ∧ n__law_behind m ss b = setX eStand (nxts m ss b) := by
  have hc := hm.cl
  have l6 := hm.l6
  have mp : ∀ p ∈ ss, (p.2.map fun v => n__law_plus v b.1) = p.2.map fun v => addF v b.1 := fun p hp =>
    List.map_congr_left fun v hv => (law_plus_ok ((hs p hp).fr v hv) hb ((hs p hp).sm v hv) sb).2
  have inner : ∀ (f0 f1 s : List (Stand × Bool)) (p : Stand), p ∈ ss → ∀ e ∈ m.2, n__law_behind_1 m ss b f0 f1 p (p.2.map fun v => addF v b.1) s e =
      cond (decide ((e.1, e.2.1) = (p.1, b.2)) && keepsAll (p.2.map fun v => addF v b.1) e.2.2.1) (putX s (e.2.2.2.2, restF (p.2.map fun v => addF v b.1) e.2.2.2.1) true) s := by
    intro f0 f1 s p hp e he
    have hlen : ((p.2.map fun v => addF v b.1).length : Int) = m.1 := by rw [List.length_map]; exact (hs p hp).len
    have e1 := bad_eq hc hlen (hm.ev e he).bl (hm.ev e he).bv
    have e2 := rest_eq hc hlen e.2.2.2.1
    show cond ((decide (e.1 = p.1)) && ((decide (e.2.1 = b.2)) && (decide ((((rngX 0 m.1).filter fun i => !(n__law_kept (getI (p.2.map fun v => addF v b.1) i) (getI e.2.2.1 i))).map fun i => i) = ([] : List Int)))))
      (putX s (e.2.2.2.2, (rngX 0 m.1).map fun i => cond (decide (i ∈ e.2.2.2.1)) ((0 : Int), (1 : Int)) (getI (p.2.map fun v => addF v b.1) i)) true) s = _
    rw [e1, e2]
    congr 1
    rw [← Bool.and_assoc]
    congr 1
    rw [Bool.eq_iff_iff, Bool.and_eq_true, decide_eq_true_eq, decide_eq_true_eq, decide_eq_true_eq, Prod.mk.injEq]
  have keys1 : ∀ (s : List (Stand × Bool)) (p : Stand) (e : Edge), (s.map (·.1)).Nodup →
      ((cond (decide ((e.1, e.2.1) = (p.1, b.2)) && keepsAll (p.2.map fun v => addF v b.1) e.2.2.1) (putX s (e.2.2.2.2, restF (p.2.map fun v => addF v b.1) e.2.2.2.1) true) s).map (·.1)).Nodup ∧
      ∀ k, k ∈ (cond (decide ((e.1, e.2.1) = (p.1, b.2)) && keepsAll (p.2.map fun v => addF v b.1) e.2.2.1) (putX s (e.2.2.2.2, restF (p.2.map fun v => addF v b.1) e.2.2.2.1) true) s).map (·.1) ↔ k ∈ s.map (·.1) ∨ k ∈ fireF (p.2.map fun v => addF v b.1) p b.2 e := by
    intro s p e nd
    unfold fireF
    cases (decide ((e.1, e.2.1) = (p.1, b.2)) && keepsAll (p.2.map fun v => addF v b.1) e.2.2.1) with
    | false => exact ⟨nd, fun k => by simp⟩
    | true =>
      refine ⟨putX_nodup _ _ s nd, fun k => ?_⟩
      show k ∈ (putX s _ true).map (·.1) ↔ _ ∨ k ∈ [_]
      rw [putX_keys, List.mem_singleton]
      exact Or.comm
  have outerE : ∀ (s : List (Stand × Bool)) (p : Stand), p ∈ ss → n__law_behind_3 m ss b [] s p = forV m.2 s (n__law_behind_1 m ss b [] s p (p.2.map fun v => addF v b.1)) := by
    intro s p hp
    show forV m.2 s (n__law_behind_1 m ss b [] s p (p.2.map fun v => n__law_plus v b.1)) = _
    rw [mp p hp]
  have fin := forV_keys (xs := ss) (s := []) (f := n__law_behind_3 m ss b []) (g := nxt m b) (by simp) fun s p hp nd => by
    rw [outerE s p hp]
    exact forV_keys (g := fireF (p.2.map fun v => addF v b.1) p b.2) nd fun t e he nd2 => by
      rw [inner [] s t p hp e he]
      exact keys1 t p e nd2
  have len1 : ∀ (f1 s : List (Stand × Bool)) (p : Stand), p ∈ ss → ∀ e ∈ m.2, (n__law_behind_1 m ss b [] f1 p (p.2.map fun v => addF v b.1) s e).length ≤ s.length + 1 := by
    intro f1 s p hp e he
    rw [inner [] f1 s p hp e he]
    cases (decide ((e.1, e.2.1) = (p.1, b.2)) && keepsAll (p.2.map fun v => addF v b.1) e.2.2.1) with
    | false => exact Nat.le_succ _
    | true => exact putX_len _ _ _
  refine ⟨?_, ?_⟩
  · refine DFor_len (k := 6) (N := 16000000) (fun s p hp => ?_) (fun s p hp hN => ?_) (by simp; omega)
    · rw [outerE s p hp]
      have := forV_len (k := 1) (s := s) (xs := m.2) (f := n__law_behind_1 m ss b [] s p (p.2.map fun v => addF v b.1)) fun t e he => len1 s t p hp e he
      omega
    · have hlen : ((p.2.map fun v => addF v b.1).length : Int) = m.1 := by rw [List.length_map]; exact (hs p hp).len
      refine ⟨fun v hv => (law_plus_ok ((hs p hp).fr v hv) hb ((hs p hp).sm v hv) sb).1, ?_, ?_⟩
      · have h1 := (hs p hp).len
        rw [sizeLine_eq]; omega
      · show DFor m.2 s (n__law_behind_1 m ss b [] s p (p.2.map fun v => n__law_plus v b.1)) (d__law_behind_2 m ss b [] s p (p.2.map fun v => n__law_plus v b.1))
        rw [mp p hp]
        refine DFor_len (k := 1) (N := 16000010) (fun t e he => len1 s t p hp e he) (fun t e he hN2 => ?_) (by omega)
        have hr : inR m.1 = true := inR_of (by omega) (by omega)
        have rl : (rngX 0 m.1).length ≤ 2 := by rw [rngX_len]; omega
        refine ⟨hr, fun i hi => ⟨inI_rng hlen hi, inI_rng (hm.ev e he).bl hi, (kept_ok ((hm.ev e he).bv _ (getI_mem (inI_rng (hm.ev e he).bl hi)))).1⟩, ?_, fun _ => ⟨hr, fun i hi _ => inI_rng hlen hi, ?_, ?_⟩⟩
        · have := List.length_filter_le (fun i => !(n__law_kept (getI (p.2.map fun v => addF v b.1) i) (getI e.2.2.1 i))) (rngX 0 m.1)
          rw [sizeLine_eq]; omega
        · rw [sizeLine_eq]; omega
        · show t.length < sizeLine
          rw [sizeLine_eq]; omega
  · show sortX eStand ((forV ss [] (n__law_behind_3 m ss b [])).map (·.1)) = _
    refine (setX_eq ek_Stand fin.1 fun x => ?_).symm
    rw [fin.2]
    simp [nxts]
end RP
end

section
set_option maxHeartbeats 4000000
set_option exponentiation.threshold 10000
/-! rows: the stands behind them are few, and their fractions small -/
namespace RP
open MV PySem
/-- what every denominator behind k beats divides -/
def DD (k : Nat) : Int := 420 * 6 ^ k
theorem DD_succ (k : Nat) : DD (k + 1) = DD k * 6 := by unfold DD; rw [Int.pow_succ, Int.mul_assoc]
theorem DD_pos (k : Nat) : 0 < DD k := Int.mul_pos (by decide) (Int.pow_pos (by decide))
theorem DD_dvd {d : Int} {k : Nat} (h : d ∣ DD k) : d ∣ DD (k + 1) := by rw [DD_succ]; exact Int.dvd_mul_of_dvd_left h
theorem DD_le {k : Nat} (h : k ≤ 40) : DD k ≤ 2 ^ 200 := by
  have : ∀ k : Fin 41, DD k.val ≤ 2 ^ 200 := by decide +kernel
  exact this ⟨k, by omega⟩
/-- a value behind k beats -/
structure FV (k : Nat) (v : Frac) : Prop where
  fr : Fr v
  at_ : AtM v (12 * k)
  dv : v.2 ∣ DD k
theorem FV.sm {k : Nat} {v : Frac} (h : FV k v) (hk : k ≤ 40) : Sm v := by
  have h1 : v.2 ≤ 2 ^ 200 := Int.le_trans (Int.le_of_dvd (DD_pos k) h.dv) (DD_le hk)
  have h2 := h.at_
  have h3 := h.fr.pos
  unfold AtM at h2
  have h4 : (12 * (k : Int)) * v.2 ≤ 480 * v.2 := Int.mul_le_mul_of_nonneg_right (by omega) (by omega)
  have h5 : v.1 ≤ 480 * 2 ^ 200 := by omega
  exact ⟨Int.lt_of_le_of_lt h5 (by decide +kernel), Int.lt_of_le_of_lt h1 (by decide +kernel)⟩
theorem FV.zero (k : Nat) : FV k (0, 1) := ⟨⟨Int.le_refl _, by decide, by decide⟩, by show (0 : Int) ≤ _ * 1; omega, Int.one_dvd _⟩
/-- a beat behind k beats -/
structure BV (k : Nat) (b : Beat) : Prop where
  fr : Fr b.1
  at_ : AtM b.1 12
  dv : b.1.2 ∣ DD (k + 1)
theorem BV.sm {k : Nat} {b : Beat} (h : BV k b) (hk : k ≤ 39) : Sm b.1 := by
  have h1 : b.1.2 ≤ 2 ^ 200 := Int.le_trans (Int.le_of_dvd (DD_pos (k + 1)) h.dv) (DD_le (by omega))
  have h2 := h.at_
  unfold AtM at h2
  have h5 : b.1.1 ≤ 12 * 2 ^ 200 := by omega
  exact ⟨Int.lt_of_le_of_lt h5 (by decide +kernel), Int.lt_of_le_of_lt h1 (by decide +kernel)⟩
theorem FV.add {k : Nat} {v : Frac} {b : Beat} (h : FV k v) (hb : BV k b) : FV (k + 1) (addF v b.1) := by
  refine ⟨addF_fr h.fr hb.fr, ?_, addF_dvd h.fr.pos hb.fr.pos (DD_dvd h.dv) hb.dv⟩
  have := addF_at h.fr hb.fr h.at_ hb.at_
  have e : (12 * (k : Int) + 12) = 12 * ((k + 1 : Nat) : Int) := by omega
  rw [e] at this
  exact this
/-- the values that there can be -/
noncomputable def SU (L : List Frac) (b : Beat) : List Frac := (0, 1) :: L.map fun v => addF v b.1
/-- all stands with such values -/
def PS (c : Int) (L : List Frac) : List Stand := (rngX 0 4).flatMap fun i => (if c = 1 then L.map fun a => [a] else L.flatMap fun a => L.map fun b => [a, b]).map fun vs => (i, vs)
theorem PS_len {c : Int} (L : List Frac) : (PS c L).length ≤ 4 * (L.length * L.length + L.length) := by
  unfold PS
  have : ∀ i ∈ rngX 0 4, (((if c = 1 then L.map fun a => [a] else L.flatMap fun a => L.map fun b => [a, b]).map fun vs => (i, vs)) : List Stand).length ≤ L.length * L.length + L.length := by
    intro i _
    rw [List.length_map]
    split
    · rw [List.length_map]; omega
    · have := flatMap_len (g := fun a => L.map fun b => [a, b]) (k := L.length) (xs := L) fun a _ => by rw [List.length_map]; exact Nat.le_refl _
      omega
  have h := flatMap_len this
  have e : (rngX 0 4).length = 4 := rfl
  rw [e] at h
  omega
theorem PS_mem {c : Int} (hc : c = 1 ∨ c = 2) {L : List Frac} {p : Stand} (h0 : 0 ≤ p.1) (h3 : p.1 ≤ 3) (hl : (p.2.length : Int) = c) (hv : ∀ v ∈ p.2, v ∈ L) : p ∈ PS c L := by
  obtain ⟨i, vs⟩ := p
  unfold PS
  refine List.mem_flatMap.mpr ⟨i, rngX_mem.mpr ⟨h0, by omega⟩, List.mem_map.mpr ⟨vs, ?_, rfl⟩⟩
  dsimp only at hl hv
  rcases two_cases hc hl with ⟨rfl, a, rfl⟩ | ⟨rfl, a, b, rfl⟩
  · rw [if_pos rfl]
    exact List.mem_map.mpr ⟨a, hv a (by simp), rfl⟩
  · rw [if_neg (by decide)]
    exact List.mem_flatMap.mpr ⟨a, hv a (by simp), List.mem_map.mpr ⟨b, hv b (by simp), rfl⟩⟩
/-- the stands behind k beats -/
structure IS (m : Mach) (k : Nat) (L : List Frac) (ss : List Stand) : Prop where
  len : L.length ≤ k + 1
  fv : ∀ v ∈ L, FV k v
  st : ∀ p ∈ ss, 0 ≤ p.1 ∧ p.1 ≤ 3 ∧ (p.2.length : Int) = m.1 ∧ ∀ v ∈ p.2, v ∈ L
  nd : ss.Nodup
theorem IS.vs {m : Mach} {k : Nat} {L : List Frac} {ss : List Stand} (h : IS m k L ss) (hk : k ≤ 30) : ∀ p ∈ ss, VS m p := fun p hp =>
  let ⟨h1, h2, h3, h4⟩ := h.st p hp
  ⟨h1, h2, h3, fun v hv => (h.fv v (h4 v hv)).fr, fun v hv => (h.fv v (h4 v hv)).sm (by omega)⟩
theorem sq_le {a b : Nat} (h : a ≤ b) : 4 * (a * a + a) ≤ 4 * (b * b + b) := by
  have := Nat.mul_le_mul h h
  omega
theorem IS.few {m : Mach} (hm : VM m) {k : Nat} {L : List Frac} {ss : List Stand} (h : IS m k L ss) (hk : k ≤ 30) : ss.length ≤ 3968 := by
  have h1 := MV.nodup_le ss (PS m.1 L) h.nd fun p hp => let ⟨a1, a2, a3, a4⟩ := h.st p hp; PS_mem hm.cl a1 a2 a3 a4
  have h2 := PS_len (c := m.1) L
  have h3 := sq_le (Nat.le_trans h.len (show k + 1 ≤ 31 by omega))
  omega
theorem nxts_st {m : Mach} (hm : VM m) {k : Nat} {L : List Frac} {ss : List Stand} (h : IS m k L ss) (b : Beat) : ∀ p ∈ nxts m ss b, 0 ≤ p.1 ∧ p.1 ≤ 3 ∧ (p.2.length : Int) = m.1 ∧ ∀ v ∈ p.2, v ∈ SU L b := by
  intro q hq
  obtain ⟨p, hp, hq⟩ := List.mem_flatMap.mp hq
  obtain ⟨e, he, rfl⟩ := nxt_mem hq
  obtain ⟨h1, h2, h3, h4⟩ := h.st p hp
  refine ⟨(hm.ev e he).g0, (hm.ev e he).g3, ?_, fun v hv => ?_⟩
  · show ((restF _ _).length : Int) = _
    rw [restF_len, List.length_map]
    exact h3
  · rcases restF_mem hv with rfl | hv
    · exact List.mem_cons_self
    · obtain ⟨u, hu, rfl⟩ := List.mem_map.mp hv
      exact List.mem_cons_of_mem _ (List.mem_map.mpr ⟨u, h4 u hu, rfl⟩)
theorem setX_nodup {α : Type} [DecidableEq α] {e : α → Val} (xs : List α) : (setX e xs).Nodup := ((List.mergeSort_perm (dedX xs) (leK e)).nodup_iff).mpr (dedX_nodup xs)
theorem IS.next {m : Mach} (hm : VM m) {k : Nat} {L : List Frac} {ss : List Stand} {b : Beat} (h : IS m k L ss) (hb : BV k b) : IS m (k + 1) (SU L b) (setX eStand (nxts m ss b)) := by
  refine ⟨?_, fun v hv => ?_, fun p hp => nxts_st hm h b p (setX_mem.mp hp), setX_nodup _⟩
  · have := h.len
    simp only [SU, List.length_cons, List.length_map]
    omega
  · rcases List.mem_cons.mp hv with rfl | hv
    · exact FV.zero _
    · obtain ⟨u, hu, rfl⟩ := List.mem_map.mp hv
      exact (h.fv u hu).add hb
theorem IS.ded {m : Mach} (hm : VM m) {k : Nat} {L : List Frac} {ss : List Stand} {b : Beat} (h : IS m k L ss) (hb : BV k b) (hk : k + 1 ≤ 30) : (dedX (nxts m ss b)).length ≤ 4000 := by
  have := (h.next hm hb).few hm hk
  unfold setX at this
  rw [sortX_len] at this
  omega
theorem behind_is {m : Mach} (hm : VM m) {k : Nat} {L : List Frac} {ss : List Stand} {b : Beat} (h : IS m k L ss) (hb : BV k b) (hk : k + 1 ≤ 30) :
    (d_behind m ss b ∧ n_behind m ss b = setX eStand (nxts m ss b)) ∧ d__law_behind m ss b ∧ n__law_behind m ss b = setX eStand (nxts m ss b) := by
  have hl := h.few hm (by omega)
  exact ⟨behind_ok hm (h.vs (by omega)) hb.fr (hb.sm (by omega)) (by omega) (h.ded hm hb hk), law_behind_ok hm (h.vs (by omega)) hb.fr (hb.sm (by omega)) (by omega)⟩
/-- .. from one stand among them -/
theorem IS.one {m : Mach} {k : Nat} {L : List Frac} {ss : List Stand} (h : IS m k L ss) {p : Stand} (hp : p ∈ ss) : IS m k L [p] := ⟨h.len, h.fv, fun q hq => by rw [List.mem_singleton.mp hq]; exact h.st p hp, by simp⟩
def rowOk : Nat → List Beat → Prop
  | _, [] => True
  | k, b :: r => BV k b ∧ rowOk (k + 1) r
theorem rowOk_snoc : ∀ {k : Nat} {r : List Beat} {b : Beat}, rowOk k r → BV (k + r.length) b → rowOk k (r ++ [b])
  | k, [], b, _, h => ⟨h, trivial⟩
  | k, c :: r, b, h, hb => ⟨h.1, rowOk_snoc (k := k + 1) h.2 (by rw [List.length_cons] at hb; have e : k + (r.length + 1) = k + 1 + r.length := by omega
                                                                 rw [e] at hb; exact hb)⟩
theorem rowOk_mem : ∀ {k : Nat} {r : List Beat} {b : Beat}, rowOk k r → b ∈ r → ∃ j, BV j b
  | k, c :: r, b, h, hb => by
    rcases List.mem_cons.mp hb with rfl | hb
    · exact ⟨k, h.1⟩
    · exact rowOk_mem h.2 hb
/-- the stands behind a row -/
noncomputable def runF (m : Mach) : List Stand → List Beat → List Stand
  | ss, [] => ss
  | ss, b :: r => runF m (setX eStand (nxts m ss b)) r
theorem runF_snoc (m : Mach) : ∀ (ss : List Stand) (r : List Beat) (b : Beat), runF m ss (r ++ [b]) = setX eStand (nxts m (runF m ss r) b)
  | _, [], _ => rfl
  | ss, c :: r, b => runF_snoc m _ r b
theorem run_is {m : Mach} (hm : VM m) : ∀ {k : Nat} {L : List Frac} {ss : List Stand} {r : List Beat}, IS m k L ss → rowOk k r → k + r.length ≤ 30 → ∃ L', IS m (k + r.length) L' (runF m ss r)
  | k, L, ss, [], h, _, _ => ⟨L, h⟩
  | k, L, ss, b :: r, h, hr, hk => by
    rw [List.length_cons] at hk
    obtain ⟨L', h'⟩ := run_is hm (r := r) (h.next hm hr.1) hr.2 (by omega)
    have e : k + 1 + r.length = k + (b :: r).length := by rw [List.length_cons]; omega
    rw [e] at h'
    exact ⟨L', h'⟩
theorem stands_by_ok {m : Mach} (hm : VM m) (s0 : List Stand) (r0 : List Beat) : ∀ {k : Nat} {L : List Frac} {ss : List Stand} {r : List Beat}, IS m k L ss → rowOk k r → k + r.length ≤ 30 →
    (DFor r ss (n_stands_by_1 m s0 r0) (d_stands_by_2 m s0 r0) ∧ forV r ss (n_stands_by_1 m s0 r0) = runF m ss r) ∧
    (DFor r ss (n__law_run_1 m r0 s0) (d__law_run_2 m r0 s0) ∧ forV r ss (n__law_run_1 m r0 s0) = runF m ss r)
  | k, L, ss, [], h, _, _ => ⟨⟨trivial, rfl⟩, trivial, rfl⟩
  | k, L, ss, b :: r, h, hr, hk => by
    rw [List.length_cons] at hk
    obtain ⟨⟨a1, a2⟩, a3, a4⟩ := behind_is hm h hr.1 (by omega)
    obtain ⟨⟨b1, b2⟩, b3, b4⟩ := stands_by_ok hm s0 r0 (r := r) (h.next hm hr.1) hr.2 (by omega)
    have e1 : n_stands_by_1 m s0 r0 ss b = setX eStand (nxts m ss b) := a2
    have e2 : n__law_run_1 m r0 s0 ss b = setX eStand (nxts m ss b) := a4
    refine ⟨⟨⟨a1, ?_⟩, ?_⟩, ⟨a3, ?_⟩, ?_⟩
    · rw [e1]; exact b1
    · show forV r (n_stands_by_1 m s0 r0 ss b) _ = _
      rw [e1]; exact b2
    · rw [e2]; exact b3
    · show forV r (n__law_run_1 m r0 s0 ss b) _ = _
      rw [e2]; exact b4
/-- the stand at first -/
def begF (m : Mach) : Stand := (0, repX [((0 : Int), (1 : Int))] m.1)
theorem beg_is {m : Mach} (hm : VM m) : IS m 0 [(0, 1)] [begF m] := by
  refine ⟨Nat.le_refl _, fun v hv => by rw [List.mem_singleton.mp hv]; exact FV.zero 0, fun p hp => ?_, by simp⟩
  rw [List.mem_singleton.mp hp]
  rcases hm.cl with h | h
  · refine ⟨Int.le_refl _, (by decide : (0 : Int) ≤ 3), ?_, ?_⟩
    · show ((repX _ m.1).length : Int) = m.1
      rw [h]; rfl
    · intro v hv
      have hv' : v ∈ repX [((0 : Int), (1 : Int))] m.1 := hv
      rw [h] at hv'
      exact hv'
  · refine ⟨Int.le_refl _, (by decide : (0 : Int) ≤ 3), ?_, ?_⟩
    · show ((repX _ m.1).length : Int) = m.1
      rw [h]; rfl
    · intro v hv
      have hv' : v ∈ repX [((0 : Int), (1 : Int))] m.1 := hv
      rw [h] at hv'
      have e : repX [((0 : Int), (1 : Int))] 2 = [(0, 1), (0, 1)] := rfl
      rw [e] at hv'
      simp at hv'
      rw [hv']
      simp
theorem beg_ok {m : Mach} (hm : VM m) : d_begin_of m := by
  have := hm.cl
  exact ⟨by omega, by omega, by decide⟩
theorem row_ok {r : List Beat} (h : rowOk 0 r) (hl : r.length ≤ 30) : d_look_at_row r := by
  have fb : ∀ b ∈ r, d_is_beat b ∧ n_is_beat b = true := fun b hb => by
    obtain ⟨j, hj⟩ := rowOk_mem h hb
    obtain ⟨h1, h2⟩ := fraction_ok hj.fr
    exact ⟨fun _ => h1, by simp [n_is_beat, n_is_row_of_5, h2, sg_ok]⟩
  refine ⟨fun _ _ => ⟨fun b hb => (fb b hb).1, by rw [sizeLine_eq]; omega⟩, ?_⟩
  have e1 : (r.map fun b => n_is_beat b).all id = true := all_map_true fun b hb => (fb b hb).2
  have e2 : decide ((r.length : Int) ≤ 30) = true := decide_eq_true (by omega)
  simp [n_is_row, e1, e2]
theorem stands_behind_ok {m : Mach} (hm : VM m) {r : List Beat} (h : rowOk 0 r) (hl : r.length ≤ 30) : (d_stands_behind m r ∧ n_stands_behind m r = runF m [begF m] r) ∧ d__law_run m r ∧ n__law_run m r = runF m [begF m] r := by
  have hc := hm.cl
  obtain ⟨⟨a1, a2⟩, _⟩ := stands_by_ok hm [begF m] r (beg_is hm) h (by omega)
  obtain ⟨_, a3, a4⟩ := stands_by_ok hm [begF m] r (beg_is hm) h (by omega)
  exact ⟨⟨⟨machine_ok hm, row_ok h hl, beg_ok hm, a1⟩, a2⟩, ⟨by omega, by omega, by decide, a3⟩, a4⟩
theorem total_ok (r0 : List Beat) : ∀ {k : Nat} {v : Frac} {r : List Beat}, FV k v → rowOk k r → k + r.length ≤ 30 → ∃ w, FV (k + r.length) w ∧
    (DFor r v (n_moment_of_1 r0 (0, 1)) (d_moment_of_2 r0 (0, 1)) ∧ forV r v (n_moment_of_1 r0 (0, 1)) = w) ∧ (DFor r v (n__law_total_1 r0 (0, 1)) (d__law_total_2 r0 (0, 1)) ∧ forV r v (n__law_total_1 r0 (0, 1)) = w)
  | k, v, [], h, _, _ => ⟨v, h, ⟨trivial, rfl⟩, trivial, rfl⟩
  | k, v, b :: r, h, hr, hk => by
    rw [List.length_cons] at hk
    obtain ⟨a1, a2⟩ := plus_ok h.fr hr.1.fr (h.sm (by omega)) (hr.1.sm (by omega))
    obtain ⟨a3, a4⟩ := law_plus_ok h.fr hr.1.fr (h.sm (by omega)) (hr.1.sm (by omega))
    obtain ⟨w, hw, ⟨b1, b2⟩, b3, b4⟩ := total_ok r0 (r := r) (h.add hr.1) hr.2 (by omega)
    have e1 : n_moment_of_1 r0 (0, 1) v b = addF v b.1 := a2
    have e2 : n__law_total_1 r0 (0, 1) v b = addF v b.1 := a4
    have e : k + 1 + r.length = k + (b :: r).length := by rw [List.length_cons]; omega
    rw [e] at hw
    refine ⟨w, hw, ⟨⟨a1, ?_⟩, ?_⟩, ⟨a3, ?_⟩, ?_⟩
    · rw [e1]; exact b1
    · show forV r (n_moment_of_1 r0 (0, 1) v b) _ = _
      rw [e1]; exact b2
    · rw [e2]; exact b3
    · show forV r (n__law_total_1 r0 (0, 1) v b) _ = _
      rw [e2]; exact b4
theorem moment_ok {r : List Beat} (h : rowOk 0 r) (hl : r.length ≤ 30) : ∃ w, Fr w ∧ (d_moment r ∧ n_moment r = w) ∧ d__law_total r ∧ n__law_total r = w := by
  obtain ⟨w, hw, ⟨b1, b2⟩, b3, b4⟩ := total_ok r (FV.zero 0) h (by omega)
  exact ⟨w, hw.fr, ⟨⟨row_ok h hl, b1⟩, b2⟩, b3, b4⟩
theorem stand_ok {m : Mach} {p : Stand} (h : VS m p) (hc : m.1 = 1 ∨ m.1 = 2) : d_look_at_stand m p := by
  have g : (n_is_row_of_6 p (2 : Int) && (n_is_within p.1 (0 : Int) (3 : Int) && n_is_row_of_7 p.2 m.1)) = true := by
    simp [n_is_row_of_6, within_ok h.p0 h.p3, n_is_row_of_7, h.len]
  refine ⟨fun _ => ⟨fun v hv => (fraction_ok (h.fr v hv)).1, ?_⟩, ?_⟩
  · have := h.len
    rw [sizeLine_eq]; omega
  · rw [g, all_map_true fun v hv => (fraction_ok (h.fr v hv)).2]
    rfl
theorem after_ok {m : Mach} (hm : VM m) {k : Nat} {L : List Frac} {ss : List Stand} {b : Beat} (h : IS m k L ss) (hb : BV k b) (hk : k + 1 ≤ 30) {p : Stand} (hp : p ∈ ss) :
    (d_after m p b ∧ n_after m p b = setX eStand (nxts m [p] b)) ∧ d__law_behind m [p] b ∧ n__law_behind m [p] b = setX eStand (nxts m [p] b) := by
  obtain ⟨⟨a1, a2⟩, a3⟩ := behind_is hm (h.one hp) hb hk
  obtain ⟨h1, h2⟩ := fraction_ok hb.fr
  have e : n_is_beat b = true := by simp [n_is_beat, n_is_row_of_5, h2, sg_ok]
  exact ⟨⟨⟨machine_ok hm, stand_ok (h.vs (by omega) p hp) hm.cl, fun _ => h1, by rw [e]; rfl, a1⟩, a2⟩, a3⟩
end RP
end

section
set_option maxHeartbeats 4000000
/-! what the law draws -/
namespace LW
open MV PySem
/-- where numbers are drawn from -/
def Spr (s : Val) : Prop := ∃ a b : Int, s = .lst true [.int a, .int b] ∧ 0 ≤ a ∧ 0 ≤ b
theorem log_small {m : Int} (h : 0 < m) (h2 : m ≤ 1000000) : m.natAbs.log2 < 9000 := by
  have h3 : m.natAbs ≠ 0 := by omega
  have h4 : m.natAbs < 2 ^ 20 := by omega
  have := (Nat.log2_lt h3).mpr h4
  omega
theorem pick_spec {s : Val} (hs : Spr s) {m : Int} (hm : 0 < m) (hm2 : m ≤ 1000000) : ∃ d s', m__law_pick [s, .int m] = some (.int d, s') ∧ 0 ≤ d ∧ d < m ∧ Spr s' := by
  obtain ⟨a, b, rfl, ha, hb⟩ := hs
  have hl := log_small hm hm2
  by_cases h : 0 < a
  · refine ⟨a % m, .lst true [.int (a / m), .int b], ?_, Int.emod_nonneg _ (by omega), Int.emod_lt_of_pos _ hm, _, _, rfl, Int.ediv_nonneg ha (by omega), hb⟩
    simp [m__law_pick, b__law_pick, h, hm, hl, ap_fnM, ap_fnIO, ap_seqM, ap_ifM, ap_setM, ap_retM, ap_dropM, ap_brkM, ap_contM, ap_failM, ap_nextM, ap_tst, ap_c1, ap_c2, ap_cN, ap_consM, ap_nilM, ap_rdO, ap_rdE, ap_mvE, ap_cC, ap_setItemM, ap_parM, ap_parM3, ap_ifV, ap_callM, ap_callIO, ap_andM, ap_orM, ap_notM, ap_andV, ap_orV, ap_notV, ap_chM, ap_asgM, ap_consT, ap_nilT, ap_nameT, ap_tupT, ap_frE, ap_cSl, ap_partS, ap_partN, ap_rng1I, ap_rng2I, ap_seqI, ap_enumI, ap_zipI, ap_lstI, ap_tupI, ap_yesM, idxV, pureO, addV, subV, mulV, fdivV, modV, gtV, ltV, leV, geV, MV.eqV, neV, intV, lenV, isV, Val.bool?, Val.int?, Val.pure, pureL, mkTup, mkLst, isiV, isiVs, anyTy, Val.isT, Val.frz, frzL, Val.own, ownL, powV, negV, mulOk, sizeLine_eq, L2.ixN, L2.atI]
  · have hb1 : 0 ≤ (b * 393555900739 + 8191) % 999999999989 := Int.emod_nonneg _ (by omega)
    refine ⟨((b * 393555900739 + 8191) % 999999999989 / 4093) % m, .lst true [.int a, .int ((b * 393555900739 + 8191) % 999999999989)], ?_, Int.emod_nonneg _ (by omega), Int.emod_lt_of_pos _ hm, _, _, rfl, ha, hb1⟩
    have l2 : Nat.log2 4093 < 9000 := by decide
    simp [m__law_pick, b__law_pick, h, hm, hl, l2, ap_fnM, ap_fnIO, ap_seqM, ap_ifM, ap_setM, ap_retM, ap_dropM, ap_brkM, ap_contM, ap_failM, ap_nextM, ap_tst, ap_c1, ap_c2, ap_cN, ap_consM, ap_nilM, ap_rdO, ap_rdE, ap_mvE, ap_cC, ap_setItemM, ap_parM, ap_parM3, ap_ifV, ap_callM, ap_callIO, ap_andM, ap_orM, ap_notM, ap_andV, ap_orV, ap_notV, ap_chM, ap_asgM, ap_consT, ap_nilT, ap_nameT, ap_tupT, ap_frE, ap_cSl, ap_partS, ap_partN, ap_rng1I, ap_rng2I, ap_seqI, ap_enumI, ap_zipI, ap_lstI, ap_tupI, ap_yesM, idxV, pureO, addV, subV, mulV, fdivV, modV, gtV, ltV, leV, geV, MV.eqV, neV, intV, lenV, isV, Val.bool?, Val.int?, Val.pure, pureL, mkTup, mkLst, isiV, isiVs, anyTy, Val.isT, Val.frz, frzL, Val.own, ownL, powV, negV, mulOk, sizeLine_eq, L2.ixN, L2.atI]
theorem spring_spec (ns : List Int) {at_ : Int} (h : 0 ≤ at_) : ∃ s, m__law_spring [.scr ns, .int at_] = some s ∧ Spr s := by
  have key : ∀ c : Int, 0 ≤ c → Spr (.lst true [.int (if 10 ^ 18 ≤ c then c else 0), .int ((c * 863 + 524287 * at_ + 1) % 999999999989)]) := fun c hc =>
    ⟨_, _, rfl, by split <;> omega, Int.emod_nonneg _ (by omega)⟩
  by_cases g : at_ < ns.length
  · have hi : at_.toNat < ns.length := by omega
    obtain ⟨z, hz⟩ : ∃ z, z = (if ns[at_.toNat] < 0 then - ns[at_.toNat] else ns[at_.toNat]) := ⟨_, rfl⟩
    have hz0 : 0 ≤ z := by rw [hz]; split <;> omega
    refine ⟨_, ?_, key z hz0⟩
    by_cases g2 : (1000000000000000000 : Int) ≤ z
    · have g3 : (10 : Int) ^ 18 ≤ z := g2
      simp [m__law_spring, b__law_spring, h, g, hi, absV2, ← hz, g2, ap_fnM, ap_fnIO, ap_seqM, ap_ifM, ap_setM, ap_retM, ap_dropM, ap_brkM, ap_contM, ap_failM, ap_nextM, ap_tst, ap_c1, ap_c2, ap_cN, ap_consM, ap_nilM, ap_rdO, ap_rdE, ap_mvE, ap_cC, ap_setItemM, ap_parM, ap_parM3, ap_ifV, ap_callM, ap_callIO, ap_andM, ap_orM, ap_notM, ap_andV, ap_orV, ap_notV, ap_chM, ap_asgM, ap_consT, ap_nilT, ap_nameT, ap_tupT, ap_frE, ap_cSl, ap_partS, ap_partN, ap_rng1I, ap_rng2I, ap_seqI, ap_enumI, ap_zipI, ap_lstI, ap_tupI, ap_yesM, idxV, pureO, addV, subV, mulV, fdivV, modV, gtV, ltV, leV, geV, MV.eqV, neV, intV, lenV, isV, Val.bool?, Val.int?, Val.pure, pureL, mkTup, mkLst, isiV, isiVs, anyTy, Val.isT, Val.frz, frzL, Val.own, ownL, powV, negV, mulOk, sizeLine_eq, L2.ixN, L2.atI]
    · have g3 : ¬ (10 : Int) ^ 18 ≤ z := g2
      simp [m__law_spring, b__law_spring, h, g, hi, absV2, ← hz, g2, ap_fnM, ap_fnIO, ap_seqM, ap_ifM, ap_setM, ap_retM, ap_dropM, ap_brkM, ap_contM, ap_failM, ap_nextM, ap_tst, ap_c1, ap_c2, ap_cN, ap_consM, ap_nilM, ap_rdO, ap_rdE, ap_mvE, ap_cC, ap_setItemM, ap_parM, ap_parM3, ap_ifV, ap_callM, ap_callIO, ap_andM, ap_orM, ap_notM, ap_andV, ap_orV, ap_notV, ap_chM, ap_asgM, ap_consT, ap_nilT, ap_nameT, ap_tupT, ap_frE, ap_cSl, ap_partS, ap_partN, ap_rng1I, ap_rng2I, ap_seqI, ap_enumI, ap_zipI, ap_lstI, ap_tupI, ap_yesM, idxV, pureO, addV, subV, mulV, fdivV, modV, gtV, ltV, leV, geV, MV.eqV, neV, intV, lenV, isV, Val.bool?, Val.int?, Val.pure, pureL, mkTup, mkLst, isiV, isiVs, anyTy, Val.isT, Val.frz, frzL, Val.own, ownL, powV, negV, mulOk, sizeLine_eq, L2.ixN, L2.atI]
  · refine ⟨_, ?_, key 7 (by decide)⟩
    simp [m__law_spring, b__law_spring, h, g, ap_fnM, ap_fnIO, ap_seqM, ap_ifM, ap_setM, ap_retM, ap_dropM, ap_brkM, ap_contM, ap_failM, ap_nextM, ap_tst, ap_c1, ap_c2, ap_cN, ap_consM, ap_nilM, ap_rdO, ap_rdE, ap_mvE, ap_cC, ap_setItemM, ap_parM, ap_parM3, ap_ifV, ap_callM, ap_callIO, ap_andM, ap_orM, ap_notM, ap_andV, ap_orV, ap_notV, ap_chM, ap_asgM, ap_consT, ap_nilT, ap_nameT, ap_tupT, ap_frE, ap_cSl, ap_partS, ap_partN, ap_rng1I, ap_rng2I, ap_seqI, ap_enumI, ap_zipI, ap_lstI, ap_tupI, ap_yesM, idxV, pureO, addV, subV, mulV, fdivV, modV, gtV, ltV, leV, geV, MV.eqV, neV, intV, lenV, isV, Val.bool?, Val.int?, Val.pure, pureL, mkTup, mkLst, isiV, isiVs, anyTy, Val.isT, Val.frz, frzL, Val.own, ownL, powV, negV, mulOk, sizeLine_eq, L2.ixN, L2.atI]
/-- a bound -/
def GoodB (l : Int) (wl : Bool) (h : Int) (wh : Bool) : Prop := 0 ≤ l ∧ l ≤ 4 ∧ l ≤ h ∧ h ≤ 5 ∧ (h = 5 → wh = false) ∧ (h = 5 ∨ l < h ∨ (l = h ∧ wl = true ∧ wh = true))
def BoundP (v : Val) : Prop := ∃ l wl h wh, v = .tup [.int l, .bl wl, .int h, .bl wh] ∧ GoodB l wl h wh
theorem bound_spec {s : Val} (hs : Spr s) : ∃ v s', m__law_bound [s] = some (v, s') ∧ Spr s' ∧ BoundP v := by
  obtain ⟨kd, s1, h1, a1, a2, q1⟩ := pick_spec hs (m := 8) (by decide) (by decide)
  obtain ⟨lo, s2, h2, b1, b2, q2⟩ := pick_spec q1 (m := 4) (by decide) (by decide)
  obtain ⟨w, s3, h3, d1, d2, q3⟩ := pick_spec q2 (m := 2) (by decide) (by decide)
  by_cases e1 : kd < 3
  · refine ⟨.tup [.int 0, .bl true, .int 5, .bl false], s3, ?_, q3, _, _, _, _, rfl, by decide, by decide, by decide, by decide, by decide, by decide⟩
    simp [m__law_bound, b__law_bound, h1, h2, h3, e1, ap_fnM, ap_fnIO, ap_seqM, ap_ifM, ap_setM, ap_retM, ap_dropM, ap_brkM, ap_contM, ap_failM, ap_nextM, ap_tst, ap_c1, ap_c2, ap_cN, ap_consM, ap_nilM, ap_rdO, ap_rdE, ap_mvE, ap_cC, ap_setItemM, ap_parM, ap_parM3, ap_ifV, ap_callM, ap_callIO, ap_andM, ap_orM, ap_notM, ap_andV, ap_orV, ap_notV, ap_chM, ap_asgM, ap_consT, ap_nilT, ap_nameT, ap_tupT, ap_frE, ap_cSl, ap_partS, ap_partN, ap_rng1I, ap_rng2I, ap_seqI, ap_enumI, ap_zipI, ap_lstI, ap_tupI, ap_yesM, idxV, pureO, addV, subV, mulV, fdivV, modV, gtV, ltV, leV, geV, MV.eqV, neV, intV, lenV, isV, Val.bool?, Val.int?, Val.pure, pureL, mkTup, mkLst, isiV, isiVs, anyTy, Val.isT, Val.frz, frzL, Val.own, ownL, powV, negV, mulOk, sizeLine_eq, L2.ixN, L2.atI]
  · by_cases e2 : kd = 3
    · refine ⟨.tup [.int lo, .bl true, .int lo, .bl true], s3, ?_, q3, _, _, _, _, rfl, ?_⟩
      · simp [m__law_bound, b__law_bound, h1, h2, h3, e2, ap_fnM, ap_fnIO, ap_seqM, ap_ifM, ap_setM, ap_retM, ap_dropM, ap_brkM, ap_contM, ap_failM, ap_nextM, ap_tst, ap_c1, ap_c2, ap_cN, ap_consM, ap_nilM, ap_rdO, ap_rdE, ap_mvE, ap_cC, ap_setItemM, ap_parM, ap_parM3, ap_ifV, ap_callM, ap_callIO, ap_andM, ap_orM, ap_notM, ap_andV, ap_orV, ap_notV, ap_chM, ap_asgM, ap_consT, ap_nilT, ap_nameT, ap_tupT, ap_frE, ap_cSl, ap_partS, ap_partN, ap_rng1I, ap_rng2I, ap_seqI, ap_enumI, ap_zipI, ap_lstI, ap_tupI, ap_yesM, idxV, pureO, addV, subV, mulV, fdivV, modV, gtV, ltV, leV, geV, MV.eqV, neV, intV, lenV, isV, Val.bool?, Val.int?, Val.pure, pureL, mkTup, mkLst, isiV, isiVs, anyTy, Val.isT, Val.frz, frzL, Val.own, ownL, powV, negV, mulOk, sizeLine_eq, L2.ixN, L2.atI]
      · exact ⟨b1, by omega, Int.le_refl _, by omega, fun h => by omega, .inr (.inr ⟨rfl, rfl, rfl⟩)⟩
    · by_cases e3 : kd = 4
      · refine ⟨.tup [.int lo, .bl (w == 0), .int 5, .bl false], s3, ?_, q3, _, _, _, _, rfl, ?_⟩
        · simp [m__law_bound, b__law_bound, h1, h2, h3, e3, ap_fnM, ap_fnIO, ap_seqM, ap_ifM, ap_setM, ap_retM, ap_dropM, ap_brkM, ap_contM, ap_failM, ap_nextM, ap_tst, ap_c1, ap_c2, ap_cN, ap_consM, ap_nilM, ap_rdO, ap_rdE, ap_mvE, ap_cC, ap_setItemM, ap_parM, ap_parM3, ap_ifV, ap_callM, ap_callIO, ap_andM, ap_orM, ap_notM, ap_andV, ap_orV, ap_notV, ap_chM, ap_asgM, ap_consT, ap_nilT, ap_nameT, ap_tupT, ap_frE, ap_cSl, ap_partS, ap_partN, ap_rng1I, ap_rng2I, ap_seqI, ap_enumI, ap_zipI, ap_lstI, ap_tupI, ap_yesM, idxV, pureO, addV, subV, mulV, fdivV, modV, gtV, ltV, leV, geV, MV.eqV, neV, intV, lenV, isV, Val.bool?, Val.int?, Val.pure, pureL, mkTup, mkLst, isiV, isiVs, anyTy, Val.isT, Val.frz, frzL, Val.own, ownL, powV, negV, mulOk, sizeLine_eq, L2.ixN, L2.atI]
        · exact ⟨b1, by omega, by omega, by omega, fun h => rfl, .inl rfl⟩
      · obtain ⟨x, s4, h4, f1, f2, q4⟩ := pick_spec q3 (m := 4 - lo) (by omega) (by omega)
        obtain ⟨y, s5, h5, g1, g2, q5⟩ := pick_spec q4 (m := 2) (by decide) (by decide)
        by_cases e5 : lo + 1 + x = 5
        · omega
        · refine ⟨.tup [.int lo, .bl (w == 0), .int (lo + 1 + x), .bl (y == 0)], s5, ?_, q5, _, _, _, _, rfl, ?_⟩
          · simp [m__law_bound, b__law_bound, h1, h2, h3, e1, e2, e3, h4, h5, ap_fnM, ap_fnIO, ap_seqM, ap_ifM, ap_setM, ap_retM, ap_dropM, ap_brkM, ap_contM, ap_failM, ap_nextM, ap_tst, ap_c1, ap_c2, ap_cN, ap_consM, ap_nilM, ap_rdO, ap_rdE, ap_mvE, ap_cC, ap_setItemM, ap_parM, ap_parM3, ap_ifV, ap_callM, ap_callIO, ap_andM, ap_orM, ap_notM, ap_andV, ap_orV, ap_notV, ap_chM, ap_asgM, ap_consT, ap_nilT, ap_nameT, ap_tupT, ap_frE, ap_cSl, ap_partS, ap_partN, ap_rng1I, ap_rng2I, ap_seqI, ap_enumI, ap_zipI, ap_lstI, ap_tupI, ap_yesM, idxV, pureO, addV, subV, mulV, fdivV, modV, gtV, ltV, leV, geV, MV.eqV, neV, intV, lenV, isV, Val.bool?, Val.int?, Val.pure, pureL, mkTup, mkLst, isiV, isiVs, anyTy, Val.isT, Val.frz, frzL, Val.own, ownL, powV, negV, mulOk, sizeLine_eq, L2.ixN, L2.atI]
          · exact ⟨b1, by omega, by omega, by omega, fun h => absurd h e5, .inr (.inl (by omega))⟩

/-- an item of a short list -/
theorem ix_mem {l : List Val} {d : Int} (h0 : 0 ≤ d) (h1 : d < l.length) : ∃ v, v ∈ l ∧ L2.atI l d = some v := by
  have hi : d.toNat < l.length := by omega
  exact ⟨l[d.toNat], List.getElem_mem hi, by simp [L2.atI, L2.ixN, h0, h1, hi]⟩
/-- an edge for c clocks -/
def EdgeP (c : Nat) (v : Val) : Prop := ∃ (p : Int) (sg : Str) (bs : List Val) (st : List Int) (g : Int), v = .tup [.int p, .str sg, .tup bs, .tup (st.map Val.int), .int g] ∧ (0 ≤ p ∧ p ≤ 3) ∧ (sg = "a" ∨ sg = "b" ∨ sg = "c") ∧
  bs.length = c ∧ (∀ b ∈ bs, BoundP b) ∧ st.Pairwise (· < ·) ∧ (∀ i ∈ st, 0 ≤ i ∧ i < c) ∧ (0 ≤ g ∧ g ≤ 3)
theorem rngL_mem {n : Nat} {x : Val} (h : x ∈ rngL 0 n) : ∃ i : Int, x = .int i ∧ 0 ≤ i ∧ i < n := by
  unfold rngL at h
  obtain ⟨i, hi, rfl⟩ := List.mem_map.mp h
  have := List.mem_range.mp hi
  exact ⟨_, rfl, by omega, by omega⟩
theorem rngL_eq (n : Nat) : rngL 0 n = ((List.range n).map fun i : Nat => ((i : Nat) : Int)).map Val.int := by
  unfold rngL
  simp
theorem bound_pure {b : Val} (h : BoundP b) : b.pure = true := by
  obtain ⟨l, wl, h, wh, rfl, _⟩ := h
  rfl
theorem pure_of {xs : List Val} (h : ∀ x ∈ xs, x.pure = true) : pureL xs = true := by
  rw [pureL_all]
  exact List.all_eq_true.mpr h
end LW
end

section
set_option maxHeartbeats 4000000
/-! edges and machines that are drawn -/
namespace LW
open MV PySem
/-- the slots of _law_edge -/
abbrev eSl (s : Val) (c : Nat) (p g : Int) (sg : Str) (b x : Option Val) : Sl := [some s, some (.int c), some (.int p), some (.int g), some (.str sg), b, x]

theorem seq_next {A B : Sv} {τ τ1 : Sl} (h : A τ = some (.next, τ1)) : seqM A B τ = B τ1 := by
  rw [ap_seqM, h]
  rfl
theorem seq_ret {A B : Sv} {τ τ1 : Sl} {v : Val} (h : A τ = some (.ret v, τ1)) : seqM A B τ = some (.ret v, τ1) := by
  rw [ap_seqM, h]
  rfl
theorem fn_ret {m : Nat} {B : Sv} {xs : List Val} {v : Val} {τ : Sl} (h : B (xs.map some ++ List.replicate m none) = some (.ret v, τ)) : fnM m B xs = some v := by
  rw [ap_fnM, h]
  rfl
theorem fnIO_ret {m : Nat} {B : Sv} {xs : List Val} {v y : Val} {τ : Sl} (h : B (xs.map some ++ List.replicate m none) = some (.ret v, τ)) (h0 : τ[0]? = some (some y)) : fnIO m B xs = some (v, y) := by
  rw [ap_fnIO, h]
  simp only [Option.bind_some, h0]
theorem rng1_at {i : Nat} {j : Int} {τ : Sl} (i1 : inR j = true) (h : τ[i]? = some (some (.int j))) : rng1I (consM (rdO i) nilM) τ = some (rngL 0 j, τ) := by
  rw [ap_rng1I, ap_consM, ap_rdO, h]
  simp only [Option.bind_some, ap_nilM]
  rw [if_pos i1]
theorem inR_of' {i : Int} (h : -1000000 ≤ i) (h2 : i ≤ 1000000) : inR i = true := by
  unfold inR
  rw [Bool.and_eq_true, decide_eq_true_eq, decide_eq_true_eq]
  constructor <;> omega
theorem inR_c {c : Nat} (hc : c = 1 ∨ c = 2) : inR (c : Int) = true := inR_of (by omega) (by omega)
theorem edge_bounds {s3 : Val} (q3 : Spr s3) {c : Nat} (hc : c = 1 ∨ c = 2) (p g : Int) (sg : Str) : ∃ ys s4, lcM (rng1I (consM (rdO 1) nilM)) (nameT 6) yesM (callIO m__law_bound 0 nilM) [6] (eSl s3 c p g sg none none) = some (.lst true ys, eSl s4 c p g sg none none) ∧ Spr s4 ∧ ys.length = c ∧ ∀ y ∈ ys, BoundP y := by
  obtain ⟨ys, τ', e, ⟨s4, q4, rfl⟩, el, rel⟩ := lcL_all (T := nameT 6) (E := callIO m__law_bound 0 nilM) (own := [6]) (fun τ => ∃ s, Spr s ∧ τ = eSl s c p g sg none none) (fun _ y => BoundP y)
    (rngL 0 c) (eSl s3 c p g sg none none) ⟨s3, q3, rfl⟩ fun x hx τ ⟨s, q, eτ⟩ => by
      subst eτ
      obtain ⟨b, s', k, q', hb⟩ := bound_spec q
      refine ⟨_, rfl, b, eSl s' c p g sg none (some x), ?_, hb, s', q', rfl⟩
      simp [k, ap_callIO, ap_nilM, pureL]
  have ln : (rngL 0 c).length = c := by rw [rngL_length]; omega
  have yl : ys.length = c := by omega
  refine ⟨ys, s4, ?_, q4, yl, fun y hy => let ⟨_, _, h⟩ := rel y hy; h⟩
  have yl2 : ys.length ≤ sizeLine := by rw [sizeLine_eq]; rcases hc with rfl | rfl <;> omega
  have i1 := inR_c hc
  have hI : rng1I (consM (rdO 1) nilM) (eSl s3 c p g sg none none) = some (rngL 0 c, eSl s3 c p g sg none none) := rng1_at i1 rfl
  rw [ap_lcM, hI]
  simp only [Option.bind_some, wipeM, List.set_cons_succ, List.set_cons_zero]
  rw [e]
  simp [yl2]
theorem edge_clocks {s4 : Val} (q4 : Spr s4) {c : Nat} (hc : c = 1 ∨ c = 2) (p g : Int) (sg : Str) (b : Val) : ∃ (st : List Int) (s5 : Val), lcM (rng1I (consM (rdO 1) nilM)) (nameT 6) (tst (MV.c2 MV.eqV (callIO m__law_pick 0 (consM (cC (.int 2)) nilM)) (cC (.int 0)))) (rdE 6) [6] (eSl s4 c p g sg (some b) none) = some (.lst true (st.map Val.int), eSl s5 c p g sg (some b) none) ∧ Spr s5 ∧
    st.Pairwise (· < ·) ∧ ∀ i ∈ st, 0 ≤ i ∧ i < c := by
  obtain ⟨zs, ys, τ', e, ⟨s5, q5, rfl⟩, sb, el, rel⟩ := lcL_inv (T := nameT 6) (C := tst (MV.c2 MV.eqV (callIO m__law_pick 0 (consM (cC (.int 2)) nilM)) (cC (.int 0)))) (E := rdE 6) (own := [6]) (fun τ => ∃ s, Spr s ∧ τ = eSl s c p g sg (some b) none) (fun x y => y = x)
    (rngL 0 c) (eSl s4 c p g sg (some b) none) ⟨s4, q4, rfl⟩ fun x hx τ ⟨s, q, eτ⟩ => by
      subst eτ
      obtain ⟨i, rfl, _⟩ := rngL_mem hx
      obtain ⟨d, s', k, _, _, q'⟩ := pick_spec q (m := 2) (by decide) (by decide)
      refine ⟨_, rfl, d == 0, eSl s' c p g sg (some b) (some (.int i)), ?_, fun _ => ⟨s', q', rfl⟩, fun _ => ⟨.int i, eSl s' c p g sg (some b) (some (.int i)), rfl, rfl, s', q', rfl⟩⟩
      simp [k, ap_tst, ap_c2, ap_callIO, ap_consM, ap_cC, ap_nilM, pureL, Val.pure, MV.eqV, Val.bool?]
  have ez : zs = ys := List.ext_getElem? fun i => by
    by_cases h : i < zs.length
    · rw [List.getElem?_eq_getElem h, List.getElem?_eq_getElem (by omega), rel i _ _ (List.getElem?_eq_getElem h) (List.getElem?_eq_getElem (by omega))]
    · rw [List.getElem?_eq_none (by omega), List.getElem?_eq_none (by omega)]
  subst ez
  rw [rngL_eq] at sb
  obtain ⟨st, sb2, rfl⟩ := List.sublist_map_iff.mp sb
  refine ⟨st, s5, ?_, q5, ?_, fun i hi => ?_⟩
  · have yl2 : (st.map Val.int).length ≤ sizeLine := by
      have := sb2.length_le
      rw [List.length_map, List.length_range] at this
      rw [sizeLine_eq, List.length_map]
      rcases hc with rfl | rfl <;> omega
    have i1 := inR_c hc
    have hI : rng1I (consM (rdO 1) nilM) (eSl s4 c p g sg (some b) none) = some (rngL 0 c, eSl s4 c p g sg (some b) none) := rng1_at i1 rfl
    rw [ap_lcM, hI]
    simp only [Option.bind_some, wipeM, List.set_cons_succ, List.set_cons_zero]
    rw [e]
    simp only [Option.bind_some, yl2, if_true]
  · refine List.Pairwise.sublist sb2 (List.pairwise_map.mpr (List.pairwise_lt_range.imp fun {a b} h => ?_))
    omega
  · obtain ⟨j, hj, rfl⟩ := List.mem_map.mp (sb2.subset hi)
    have := List.mem_range.mp hj
    exact ⟨by omega, by omega⟩
theorem edge_spec {s : Val} (hs : Spr s) {c : Nat} (hc : c = 1 ∨ c = 2) : ∃ v s', m__law_edge [s, .int c] = some (v, s') ∧ Spr s' ∧ EdgeP c v := by
  obtain ⟨d1, s1, h1, a1, a2, q1⟩ := pick_spec hs (m := 4) (by decide) (by decide)
  obtain ⟨d2, s2, h2, b1, b2, q2⟩ := pick_spec q1 (m := 4) (by decide) (by decide)
  obtain ⟨d3, s3, h3, e1, e2, q3⟩ := pick_spec q2 (m := 4) (by decide) (by decide)
  obtain ⟨v1, m1, i1⟩ := ix_mem (l := [.int 0, .int 0, .int 1, .int 2]) a1 a2
  obtain ⟨v2, m2, i2⟩ := ix_mem (l := [.int 0, .int 1, .int 1, .int 2]) b1 b2
  obtain ⟨v3, m3, i3⟩ := ix_mem (l := [.str "a", .str "a", .str "b", .str "c"]) e1 e2
  obtain ⟨p, rfl, p1, p2⟩ : ∃ p : Int, v1 = .int p ∧ 0 ≤ p ∧ p ≤ 3 := by simp at m1; rcases m1 with rfl | rfl | rfl <;> exact ⟨_, rfl, by decide, by decide⟩
  obtain ⟨g, rfl, g1, g2⟩ : ∃ p : Int, v2 = .int p ∧ 0 ≤ p ∧ p ≤ 3 := by simp at m2; rcases m2 with rfl | rfl | rfl <;> exact ⟨_, rfl, by decide, by decide⟩
  obtain ⟨sg, rfl, hsg⟩ : ∃ z : Str, v3 = .str z ∧ (z = "a" ∨ z = "b" ∨ z = "c") := by simp at m3; rcases m3 with rfl | rfl | rfl <;> exact ⟨_, rfl, by simp⟩
  obtain ⟨bs, s4, k4, q4, bl, hbs⟩ := edge_bounds q3 hc p g sg
  obtain ⟨st, s5, k5, q5, srt, hst⟩ := edge_clocks q4 hc p g sg (.tup bs)
  have pb : pureL bs = true := pure_of fun b hb => bound_pure (hbs b hb)
  have ps : pureL (st.map Val.int) = true := pure_of fun b hb => by
    obtain ⟨i, _, rfl⟩ := List.mem_map.mp hb
    rfl
  have sl : 5 ≤ sizeLine := by rw [sizeLine_eq]; decide
  refine ⟨.tup [.int p, .str sg, .tup bs, .tup (st.map Val.int), .int g], s5, ?_, q5, p, sg, bs, st, g, rfl, ⟨p1, p2⟩, hsg, bl, hbs, srt, hst, g1, g2⟩
  have sl4 : 4 ≤ sizeLine := by rw [sizeLine_eq]; decide
  have t1 : (parM 2 3 (consM (c2 idxV (cN mkLst (consM (cC (.int 0)) (consM (cC (.int 0)) (consM (cC (.int 1)) (consM (cC (.int 2)) nilM))))) (callIO m__law_pick 0 (consM (cC (.int 4)) nilM))) (consM (c2 idxV (cN mkLst (consM (cC (.int 0)) (consM (cC (.int 1)) (consM (cC (.int 1)) (consM (cC (.int 2)) nilM))))) (callIO m__law_pick 0 (consM (cC (.int 4)) nilM))) nilM))) [some s, some (.int c), none, none, none, none, none] = some (.next, [some s2, some (.int c), some (.int p), some (.int g), none, none, none]) := by
    simp only [ap_parM, ap_consM, ap_c2, ap_cN, ap_cC, ap_nilM, ap_callIO, mkLst, List.length_cons, List.length_nil, sl4, if_true, Option.bind_some, List.getElem?_cons_zero, pureL, Val.pure, Bool.and_self, Bool.and_true, h1, h2, idxV, i1, i2, pureO, List.set_cons_zero, List.set_cons_succ]
  have t2 : (setM 4 (c2 idxV (cN mkLst (consM (cC (.str "a")) (consM (cC (.str "a")) (consM (cC (.str "b")) (consM (cC (.str "c")) nilM))))) (callIO m__law_pick 0 (consM (cC (.int 4)) nilM)))) [some s2, some (.int c), some (.int p), some (.int g), none, none, none] = some (.next, eSl s3 c p g sg none none) := by
    simp only [ap_setM, ap_consM, ap_c2, ap_cN, ap_cC, ap_nilM, ap_callIO, mkLst, List.length_cons, List.length_nil, sl4, if_true, Option.bind_some, List.getElem?_cons_zero, pureL, Val.pure, Bool.and_self, Bool.and_true, h3, idxV, i3, pureO, List.set_cons_zero, List.set_cons_succ]
  have t3 : (setM 5 (cN tupleV (consM (lcM (rng1I (consM (rdO 1) nilM)) (nameT 6) yesM (callIO m__law_bound 0 nilM) [6]) nilM))) (eSl s3 c p g sg none none) = some (.next, eSl s4 c p g sg (some (.tup bs)) none) := by
    simp only [ap_setM, ap_consM, ap_cN, ap_nilM, k4, Option.bind_some, tupleV, pb, if_true, List.set_cons_zero, List.set_cons_succ]
  have t4 : (retM (cN mkTup (consM (rdE 2) (consM (rdE 4) (consM (rdE 5) (consM (cN tupleV (consM (lcM (rng1I (consM (rdO 1) nilM)) (nameT 6) (tst (MV.c2 MV.eqV (callIO m__law_pick 0 (consM (cC (.int 2)) nilM)) (cC (.int 0)))) (rdE 6) [6]) nilM)) (consM (rdE 3) nilM))))))) (eSl s4 c p g sg (some (.tup bs)) none) = some (.ret (.tup [.int p, .str sg, .tup bs, .tup (st.map Val.int), .int g]), eSl s5 c p g sg (some (.tup bs)) none) :=
    s_ret (s_cN (s_cons (s_rdE rfl rfl) (s_cons (s_rdE rfl rfl) (s_cons (s_rdE rfl pb) (s_cons (s_cN (s_cons k5 s_nil) (tupleV_l ps)) (s_cons (s_rdE rfl rfl) s_nil))))) (mkTup_ok (show 5 ≤ 1000 by decide)))
  unfold m__law_edge
  refine fnIO_ret (τ := eSl s5 c p g sg (some (.tup bs)) none) ?_ rfl
  show b__law_edge [some s, some (.int c), none, none, none, none, none] = _
  unfold b__law_edge
  rw [seq_next t1, seq_next t2, seq_next t3, t4]
end LW
end

section
set_option maxHeartbeats 4000000
/-! machines that are drawn -/
namespace LW
open MV PySem
theorem lay_sign {z : Str} (h : z = "a" ∨ z = "b" ∨ z = "c") : PyData.canLay0 (.str z) = true := by rcases h with rfl | rfl | rfl <;> decide +kernel
theorem bound_kd {b : Val} (h : BoundP b) : b.kd 1 = true := by
  obtain ⟨l, wl, h, wh, rfl, _⟩ := h
  rfl
theorem kdL_of {n : Nat} {xs : List Val} (h : ∀ x ∈ xs, x.kd n = true) : kdL n xs = true := by
  rw [kdL_all]
  exact List.all_eq_true.mpr h
theorem edge_kd {c : Nat} {e : Val} (h : EdgeP c e) : e.kd 8 = true := by
  obtain ⟨p, sg, bs, st, g, rfl, _, hs, _, hb, _⟩ := h
  have h1 : kdL 6 bs = true := kdL_of fun b hb' => by
    obtain ⟨l, wl, h, wh, rfl, _⟩ := hb b hb'
    rfl
  have h2 : kdL 6 (st.map Val.int) = true := kdL_of fun b hb' => by
    obtain ⟨i, _, rfl⟩ := List.mem_map.mp hb'
    rfl
  have h3 := lay_sign hs
  simp only [Val.kd, kdL, h1, h2, h3, Bool.and_self]
theorem edge_row {c : Nat} {e : Val} (h : EdgeP c e) : e.row = true := by
  have k := edge_kd h
  obtain ⟨p, sg, bs, st, g, rfl, _⟩ := h
  exact kd_row k
theorem bound_alike {b b' : Val} (h : BoundP b) (h' : BoundP b') : PySem.W.alike b.toD b'.toD = true := by
  obtain ⟨l, wl, hi, wh, rfl, _⟩ := h
  obtain ⟨l', wl', hi', wh', rfl, _⟩ := h'
  exact alike_tup (alike_cons (alike_int _ _) (alike_cons (alike_bl _ _) (alike_cons (alike_int _ _) (alike_cons (alike_bl _ _) (alike_nil _)))))
theorem edge_alike {c : Nat} {e e' : Val} (h : EdgeP c e) (h' : EdgeP c e') : PySem.W.alike e.toD e'.toD = true := by
  obtain ⟨p, sg, bs, st, g, rfl, _, _, _, hb, _⟩ := h
  obtain ⟨p', sg', bs', st', g', rfl, _, _, _, hb', _⟩ := h'
  refine alike_tup (alike_cons (alike_int _ _) (alike_cons (alike_str _ _) (alike_cons (alike_tup (alikeAll_of (xs := []) (ys := []) _ _ fun x hx y hy => bound_alike (hb x hx) (hb' y hy))) (alike_cons (alike_tup (alikeAll_of (xs := []) (ys := []) _ _ fun x hx y hy => ?_)) (alike_cons (alike_int _ _) (alike_nil _))))))
  obtain ⟨i, _, rfl⟩ := List.mem_map.mp hx
  obtain ⟨j, _, rfl⟩ := List.mem_map.mp hy
  exact alike_int _ _
theorem edges_alike {c : Nat} {es : List Val} (h : ∀ e ∈ es, EdgeP c e) : alikeL es = true := List.all_eq_true.mpr fun x hx => List.all_eq_true.mpr fun y hy => edge_alike (h x hx) (h y hy)
theorem edges_setOk {c : Nat} {es : List Val} (h : ∀ e ∈ es, EdgeP c e) (hl : es.length ≤ 4000) : setOk es = true := setOk_rows (fun x hx => edge_row (h x hx)) (edges_alike h) hl
theorem edges_pure {c : Nat} {es : List Val} (h : ∀ e ∈ es, EdgeP c e) : pureL es = true := pure_of fun x hx => kd_pure (edge_kd (h x hx))
/-- a machine -/
def MachP (c : Nat) (v : Val) : Prop := ∃ es, v = .tup [.int c, .tup es] ∧ 1 ≤ es.length ∧ es.length ≤ 6 ∧ (∀ e ∈ es, EdgeP c e) ∧ riseL es = true
/-- edges, each once, ascending -/
theorem sort_edges {c : Nat} {es : List Val} (h : ∀ e ∈ es, EdgeP c e) (hl : es.length ≤ 4000) : (∀ e ∈ (dedV es).mergeSort leB, EdgeP c e) ∧ riseL ((dedV es).mergeSort leB) = true ∧ ((dedV es).mergeSort leB).length ≤ es.length ∧ (es ≠ [] → 1 ≤ ((dedV es).mergeSort leB).length) := by
  have pm := List.mergeSort_perm (dedV es) leB
  have keys := setOk_keys (edges_setOk h hl)
  refine ⟨fun e he => h e (dedV_sub es e (pm.mem_iff.mp he)), sorted_rise keys.1 keys.2.1, by rw [pm.length_eq]; exact dedV_length es, fun hne => ?_⟩
  rw [pm.length_eq]
  cases es with
  | nil => exact absurd rfl hne
  | cons x r => rw [dedV, List.length_cons]; omega
theorem machine_spec {s : Val} (hs : Spr s) {m : Int} (hm : 1 ≤ m) (hm6 : m ≤ 6) : ∃ c v s', m__law_machine [s, .int m] = some (v, s') ∧ Spr s' ∧ (c = 1 ∨ c = 2) ∧ MachP c v := by
  obtain ⟨d, s1, h1, a1, a2, q1⟩ := pick_spec hs (m := 2) (by decide) (by decide)
  obtain ⟨k, s2, h2, b1, b2, q2⟩ := pick_spec q1 (m := m) (by omega) (by omega)
  obtain ⟨c, hc⟩ : ∃ c : Nat, 1 + d = (c : Int) := ⟨(1 + d).toNat, by omega⟩
  have hc2 : c = 1 ∨ c = 2 := by omega
  have t1 : setM 2 (c2 addV (cC (.int 1)) (callIO m__law_pick 0 (consM (cC (.int 2)) nilM))) [some s, some (.int m), none, none, none] = some (.next, [some s1, some (.int m), some (.int c), none, none]) :=
    s_set (s_c2 s_cC (s_callIO rfl (s_cons s_cC s_nil) rfl rfl h1) (show addV (.int 1) (.int d) = some (.int c) by rw [← hc]; rfl))
  obtain ⟨ys, τ', e, ⟨s3, q3, rfl⟩, el, rel⟩ := lcL_all (T := nameT 4) (E := callIO m__law_edge 0 (consM (rdE 2) nilM)) (own := [4]) (fun τ => ∃ s, Spr s ∧ τ = [some s, some (.int m), some (.int c), none, none]) (fun _ y => EdgeP c y)
    (rngL 0 (1 + k)) [some s2, some (.int m), some (.int c), none, none] ⟨s2, q2, rfl⟩ fun x hx τ ⟨s, q, eτ⟩ => by
      subst eτ
      obtain ⟨v, s', kk, q', hv⟩ := edge_spec q hc2
      exact ⟨_, rfl, v, [some s', some (.int m), some (.int c), none, some x], s_callIO rfl (s_cons (s_rdE rfl rfl) s_nil) rfl rfl kk, hv, s', q', rfl⟩
  rw [rngL_length] at el
  have yl : 1 ≤ ys.length ∧ ys.length ≤ 6 := by omega
  have hE : ∀ e ∈ ys, EdgeP c e := fun y hy => let ⟨_, _, h⟩ := rel y hy; h
  have t2 : setM 3 (lcM (rng1I (consM (c2 addV (cC (.int 1)) (callIO m__law_pick 0 (consM (rdE 1) nilM))) nilM)) (nameT 4) yesM (callIO m__law_edge 0 (consM (rdE 2) nilM)) [4]) [some s1, some (.int m), some (.int c), none, none] = some (.next, [some s3, some (.int m), some (.int c), some (.lst true ys), none]) :=
    s_set' (s_lc (ys := ys) (s_rng1 (k := 1 + k) (s_cons (s_c2 s_cC (s_callIO rfl (s_cons (s_rdE rfl rfl) s_nil) rfl rfl h2) rfl) s_nil) (inR_of (by omega) (by omega))) e (by rw [sizeLine_eq]; omega))
  obtain ⟨g1, g2, g3, g4⟩ := sort_edges hE (by omega)
  refine ⟨c, .tup [.int c, .tup ((dedV ys).mergeSort leB)], s3, ?_, q3, hc2, _, rfl, g4 (fun z => by rw [z] at yl; simp at yl), by omega, g1, g2⟩
  unfold m__law_machine
  refine s_fnIO (τ := [some s3, some (.int m), some (.int c), some (.lst true ys), none]) ?_ rfl
  unfold b__law_machine
  refine s_seq t1 (s_seq t2 (s_ret (s_cN (s_cons (s_rdE rfl rfl) (s_cons (s_cN (s_cons (s_c1 (s_rdO rfl) (sortSet_seq rfl (edges_setOk hE (by omega)))) s_nil) (tupleV_l (edges_pure g1))) s_nil)) (mkTup_ok (show 2 ≤ 1000 by decide)))))
end LW
end

section
set_option maxHeartbeats 4000000
/-! _law_twins of a value with itself -/
namespace LW
open MV PySem
mutual
def _root_.MV.Val.tw : Nat → Val → Bool
  | 0, _ => false
  | _ + 1, .non => true
  | _ + 1, .bl _ => true
  | _ + 1, .int _ => true
  | _ + 1, .str _ => true
  | n + 1, .tup xs => decide (xs.length ≤ 10000000) && twL n xs
  | n + 1, .lst m xs => !m && decide (xs.length ≤ 10000000) && twL n xs
  | _ + 1, .dct _ _ _ _ => false
  | _ + 1, .scr _ => false
def twL : Nat → List Val → Bool
  | _, [] => true
  | n, x :: r => x.tw n && twL n r
end
theorem twL_all (n : Nat) : ∀ xs : List Val, twL n xs = xs.all (Val.tw n)
  | [] => by simp [twL]
  | x :: r => by simp [twL, twL_all n r]
mutual
theorem tw_pure : ∀ (n : Nat) (x : Val), x.tw n = true → x.pure = true
  | 0, _, h => by simp [Val.tw] at h
  | _ + 1, .non, _ => rfl
  | _ + 1, .bl _, _ => rfl
  | _ + 1, .int _, _ => rfl
  | _ + 1, .str _, _ => rfl
  | n + 1, .tup xs, h => by
    simp only [Val.tw, Bool.and_eq_true] at h
    simp only [Val.pure]
    exact twL_pure n xs h.2
  | n + 1, .lst m xs, h => by
    simp only [Val.tw, Bool.and_eq_true] at h
    simp only [Val.pure, h.1.1, Bool.true_and]
    exact twL_pure n xs h.2
  | _ + 1, .dct _ _ _ _, h => by simp [Val.tw] at h
  | _ + 1, .scr _, h => by simp [Val.tw] at h
theorem twL_pure : ∀ (n : Nat) (xs : List Val), twL n xs = true → pureL xs = true
  | _, [], _ => rfl
  | n, x :: r, h => by
    simp only [twL, Bool.and_eq_true] at h
    simp only [pureL, tw_pure n x h.1, twL_pure n r h.2, Bool.and_self]
end
def kindN : Val → Int
  | .non => 0
  | .bl _ => 1
  | .lst _ _ => 2
  | .tup _ => 3
  | .int _ => 4
  | .str _ => 5
  | _ => 6
theorem kind_spec {n : Nat} {x : Val} (h : x.tw n = true) : m__law_kind [x] = some (.int (kindN x)) := by
  cases n with
  | zero => simp [Val.tw] at h
  | succ n => cases x <;> first | rfl | (rename_i b; cases b <;> rfl) | simp [Val.tw] at h
theorem zip_self : ∀ xs : List Val, zipF xs xs = xs.map fun x => .tup [x, x]
  | [] => rfl
  | x :: r => by rw [zipF, zip_self r, List.map_cons]
theorem filterMap_none (xs : List Val) : xs.filterMap (fun _ => (none : Option Val)) = [] := by
  induction xs with
  | nil => rfl
  | cons x r ih => simpa [List.filterMap_cons] using ih
theorem twins_seq (n : Nat) (ih : ∀ x : Val, x.tw n = true → m__law_twins n [x, x] = some (.bl true)) (v : Val) (xs : List Val) (hv : zipI (consM (rdE 0) (consM (rdE 1) nilM)) [some v, some v, none, none] = some (zipF (frzL xs) (frzL xs), [some v, some v, none, none]))
    (hl : lenV [v] = some (.int xs.length)) (hk : m__law_kind [v] = some (.int (kindN v))) (h23 : kindN v = 2 ∨ kindN v = 3) (hp : v.pure = true) (hx : twL n xs = true) (hlen : xs.length ≤ 10000000) : m__law_twins (n + 1) [v, v] = some (.bl true) := by
  show fnM 2 (b__law_twins (m__law_twins n)) [v, v] = _
  unfold b__law_twins
  refine q_fn ?_
  show Ret _ [some v, some v, none, none] _
  have pv : pureL [v] = true := by simp only [pureL, hp, Bool.and_self]
  have kc : callM m__law_kind (consM (rdO 0) nilM) [some v, some v, none, none] = some (.int (kindN v), [some v, some v, none, none]) := s_callM (s_cons (s_rdO rfl) s_nil) pv hk
  have kc1 : callM m__law_kind (consM (rdO 1) nilM) [some v, some v, none, none] = some (.int (kindN v), [some v, some v, none, none]) := s_callM (s_cons (s_rdO rfl) s_nil) pv hk
  refine q_ifF (s_tst (s_c2 kc kc1 (by rw [ne_i]; simp))) ?_
  have hin : inV2 (.int (kindN v)) (.lst true [.int 2, .int 3]) = some (.bl true) := by
    rcases h23 with h | h <;> rw [h] <;> rfl
  refine q_ifT (s_tst (s_c2 kc (s_cN (s_cons s_cC (s_cons s_cC s_nil)) (mkLst_ok (show 2 ≤ 1000 by decide))) hin)) ?_
  have pxs := twL_pure n xs hx
  have hz : zipI (consM (rdE 0) (consM (rdE 1) nilM)) [some v, some v, none, none] = some (xs.map (fun x => .tup [x, x]), [some v, some v, none, none]) := by
    rw [hv, frzL_of_pure xs pxs, zip_self]
  rw [twL_all] at hx
  have lc := lcM_det (T := tupT 2 (consT (nameT 2) (consT (nameT 3) nilT))) (C := MV.notM (tst (callM (m__law_twins n) (consM (rdO 2) (consM (rdO 3) nilM))))) (E := cC (.int 1)) (own := [2, 3]) (fun _ => none) hz (by rw [List.length_map, sizeLine_eq]; omega) fun x hx' => by
    obtain ⟨d, hd, rfl⟩ := List.mem_map.mp hx'
    have td := List.all_eq_true.mp hx d hd
    have pd := tw_pure n d td
    exact ⟨[some v, some v, some d, some d], rfl, .inl ⟨rfl, _, s_not (s_tst (s_callM (s_cons (s_rdO rfl) (s_cons (s_rdO rfl) s_nil)) (by simp only [pureL, pd, Bool.and_self]) (ih d td))), rfl⟩⟩
  rw [filterMap_none] at lc
  refine q_ret (s_vand2 (s_c2 (s_cN (s_cons (s_rdO rfl) s_nil) hl) (s_cN (s_cons (s_rdO rfl) s_nil) hl) (by rw [eq_i]; simp)) (s_c2 lc (s_cN s_nil (mkLst_ok (show 0 ≤ 1000 by decide))) ?_))
  exact eq_nil (okD_nil true)
theorem twins_leaf (n : Nat) (v : Val) (hk : m__law_kind [v] = some (.int (kindN v))) (h23 : kindN v ≠ 2 ∧ kindN v ≠ 3) (hp : v.pure = true) (he : eqV v v = some (.bl true)) : m__law_twins (n + 1) [v, v] = some (.bl true) := by
  show fnM 2 (b__law_twins (m__law_twins n)) [v, v] = _
  unfold b__law_twins
  refine q_fn ?_
  show Ret _ [some v, some v, none, none] _
  have pv : pureL [v] = true := by simp only [pureL, hp, Bool.and_self]
  have kc : callM m__law_kind (consM (rdO 0) nilM) [some v, some v, none, none] = some (.int (kindN v), [some v, some v, none, none]) := s_callM (s_cons (s_rdO rfl) s_nil) pv hk
  have kc1 : callM m__law_kind (consM (rdO 1) nilM) [some v, some v, none, none] = some (.int (kindN v), [some v, some v, none, none]) := s_callM (s_cons (s_rdO rfl) s_nil) pv hk
  refine q_ifF (s_tst (s_c2 kc kc1 (by rw [ne_i]; simp))) ?_
  have hin : inV2 (.int (kindN v)) (.lst true ([2, 3].map Val.int)) = some (.bl false) := by
    rw [in_l ek_i (by decide)]
    simp [h23.1, h23.2]
  refine q_ifF (s_tst (s_c2 kc (s_cN (s_cons s_cC (s_cons s_cC s_nil)) (mkLst_ok (show 2 ≤ 1000 by decide))) hin)) ?_
  exact q_ret (s_c2 (s_rdO rfl) (s_rdO rfl) he)
theorem twins_refl : ∀ (n : Nat) (x : Val), x.tw n = true → m__law_twins n [x, x] = some (.bl true)
  | 0, _, h => by simp [Val.tw] at h
  | n + 1, x, h => by
    have hk := kind_spec h
    have hp := tw_pure _ x h
    cases x with
    | non => exact twins_leaf n _ hk ⟨by simp [kindN], by simp [kindN]⟩ hp (by rw [eqV_okD (x := .non) (y := .non) (by decide +kernel) (by decide +kernel)]; simp [Val.toD, PyData.eqv])
    | bl b => exact twins_leaf n _ hk ⟨by simp [kindN], by simp [kindN]⟩ hp (by simp [eqV])
    | int i => exact twins_leaf n _ hk ⟨by simp [kindN], by simp [kindN]⟩ hp (by simp [eqV])
    | str z => exact twins_leaf n _ hk ⟨by simp [kindN], by simp [kindN]⟩ hp (by simp [eqV])
    | tup xs =>
      simp only [Val.tw, Bool.and_eq_true, decide_eq_true_eq] at h
      exact twins_seq n (twins_refl n) _ xs (s_zipT (s_cons (s_rdE rfl hp) (s_cons (s_rdE rfl hp) s_nil))) rfl hk (.inr rfl) hp h.2 h.1
    | lst m xs =>
      simp only [Val.tw, Bool.and_eq_true, decide_eq_true_eq] at h
      exact twins_seq n (twins_refl n) _ xs (s_zipL (s_cons (s_rdE rfl hp) (s_cons (s_rdE rfl hp) s_nil))) rfl hk (.inl rfl) hp h.2 h.1.2
    | dct _ _ _ _ => simp [Val.tw] at h
    | scr _ => simp [Val.tw] at h
end LW
end

section
set_option maxHeartbeats 4000000
/-! what is drawn, as plain values -/
namespace LW
open MV PySem RP
theorem list_typed {α : Type} {e : α → Val} {Q : α → Prop} : ∀ {xs : List Val}, (∀ x ∈ xs, ∃ a, x = e a ∧ Q a) → ∃ as : List α, xs = as.map e ∧ ∀ a ∈ as, Q a
  | [], _ => ⟨[], rfl, fun _ h => nomatch h⟩
  | x :: r, h => by
    obtain ⟨a, rfl, ha⟩ := h x List.mem_cons_self
    obtain ⟨as, rfl, has⟩ := list_typed fun y hy => h y (List.mem_cons_of_mem _ hy)
    exact ⟨a :: as, rfl, fun b hb => (List.mem_cons.mp hb).elim (fun z => z ▸ ha) (has b)⟩
theorem bound_typed {v : Val} (h : BoundP v) : ∃ b : Bound, v = eBound b ∧ VB b := by
  obtain ⟨l, wl, u, wu, rfl, h1, h2, h3, h4, h5, h6⟩ := h
  exact ⟨(l, wl, u, wu), rfl, h1, h2, h3, h4, h5, h6⟩
theorem sign_typed {z : Str} (h : z = "a" ∨ z = "b" ∨ z = "c") : ∃ s : Sg, Val.str z = eSg s := by
  rcases h with rfl | rfl | rfl
  · exact ⟨.a, rfl⟩
  · exact ⟨.b, rfl⟩
  · exact ⟨.c, rfl⟩
theorem edge_typed {c : Nat} {v : Val} (h : EdgeP c v) : ∃ e : Edge, v = eEdge e ∧ VE c e := by
  obtain ⟨p, sg, bs, st, g, rfl, ⟨p0, p3⟩, hs, hl, hb, nl, nm, g0, g3⟩ := h
  obtain ⟨s, es⟩ := sign_typed hs
  obtain ⟨bs, rfl, hbt⟩ := list_typed fun b hb' => bound_typed (hb b hb')
  refine ⟨(p, s, bs, st, g), ?_, p0, p3, ?_, hbt, nl, fun i hi => nm i hi, g0, g3⟩
  · rw [es]; rfl
  · rw [List.length_map] at hl
    exact_mod_cast hl
theorem mach_typed {c : Nat} (hc : c = 1 ∨ c = 2) {v : Val} (h : MachP c v) : ∃ m : Mach, v = eMach m ∧ VM m := by
  obtain ⟨es, rfl, l1, l6, he, hr⟩ := h
  obtain ⟨es, rfl, het⟩ := list_typed fun e h => edge_typed (he e h)
  rw [List.length_map] at l1 l6
  refine ⟨((c : Int), es), rfl, by show (c : Int) = 1 ∨ (c : Int) = 2; omega, l1, l6, het, ?_⟩
  have := rise_pair hr
  rw [List.pairwise_map] at this
  exact this
/-- a machine that is drawn -/
theorem machine_drawn {s : Val} (hs : Spr s) {k : Int} (hk : 1 ≤ k) (hk6 : k ≤ 6) : ∃ m s', m__law_machine [s, .int k] = some (eMach m, s') ∧ Spr s' ∧ VM m := by
  obtain ⟨c, v, s', h1, h2, h3, h4⟩ := machine_spec hs hk hk6
  obtain ⟨m, rfl, hm⟩ := mach_typed h3 h4
  exact ⟨m, s', h1, h2, hm⟩
/-- a pick at a pattern of slots -/
theorem y_pick {P Q : Sl} {i : Nat} {s0 s : Val} {De : Ev} {k : Int} (h0 : P[i]? = some (some s0)) (he : YE P De (.int k) Q) (h2 : Q[i]? = some (some s)) (hs : Spr s) (hk : 0 < k) (hk2 : k ≤ 1000000) :
    ∃ d s', 0 ≤ d ∧ d < k ∧ Spr s' ∧ YE P (callIO m__law_pick i (consM De nilM)) (.int d) (Q.set i (some s')) := by
  obtain ⟨d, s', h, a, b, q⟩ := pick_spec hs hk hk2
  exact ⟨d, s', a, b, q, y_callIO h0 (ys_cons he ys_nil) h2 rfl h⟩
end LW
end

section
set_option maxHeartbeats 4000000
/-! pauses that are drawn -/
namespace LW
open MV PySem RP
theorem low_call {t b : Int} (ht : 0 ≤ t) (hb : 0 < b) (hs : b < 2 ^ 6000) : m__law_low [.int t, .int b] = some (eFrac (lowF t b)) := by
  obtain ⟨h1, h2⟩ := law_low_ok ht hb hs
  rw [x__law_low t b h1, h2]
structure PV (k : Nat) (p : Frac) : Prop where
  fr : Fr p
  at_ : AtM p 12
  dv : p.2 ∣ DD (k + 1)
theorem lowF_self {t b : Int} (hb : 0 < b) : (lowF t b).2 ∣ b := lowF_dvd (m := t) hb rfl
theorem pv_of {k : Nat} {t b : Int} (ht : 0 ≤ t) (hb : 0 < b) (h : t ≤ 12 * b) (hd : b ∣ DD (k + 1)) : PV k (lowF t b) :=
  ⟨lowF_fr ht hb, lowF_at ht hb h, Int.dvd_trans (lowF_self hb) hd⟩
theorem DD_420 (k : Nat) : (420 : Int) ∣ DD k := ⟨6 ^ k, rfl⟩
theorem small_dvd {b : Int} (h1 : 1 ≤ b) (h7 : b ≤ 7) (k : Nat) : b ∣ DD k := by
  refine Int.dvd_trans ?_ (DD_420 k)
  have : b = 1 ∨ b = 2 ∨ b = 3 ∨ b = 4 ∨ b = 5 ∨ b = 6 ∨ b = 7 := by omega
  rcases this with rfl | rfl | rfl | rfl | rfl | rfl | rfl <;> decide
theorem mul_dvd {k : Nat} {b c : Int} (h : b ∣ DD k) (hc : c ∣ 6) : c * b ∣ DD (k + 1) := by
  rw [DD_succ, Int.mul_comm c b]
  exact Int.mul_dvd_mul h hc
theorem small_lt {b : Int} {k : Nat} (hb : b ≤ 3 * DD k) (hk : k ≤ 40) : b < 2 ^ 6000 := by
  have h1 := DD_le hk
  have h2 : b ≤ 3 * 2 ^ 200 := by omega
  exact Int.lt_of_le_of_lt h2 (by decide +kernel)
/-- the slots of _law_pause -/
abbrev pSl (s : Val) (m : Mach) (ss : List Stand) (w : Option Val) (a b c d e f g h : Option Val) : Sl := [some s, some (eMach m), some (eL eStand ss), w, a, b, c, d, e, f, g, h]
theorem pause_spec {s : Val} (hs : Spr s) {m : Mach} (hm : VM m) {k : Nat} {L : List Frac} {ss : List Stand} (h : IS m k L ss) (hk : k ≤ 30) :
    ∃ p s', m__law_pause [s, eMach m, eL eStand ss] = some (eFrac p, s') ∧ Spr s' ∧ PV k p := by
  have hc := hm.cl
  have key : ∃ p s', ZO (pSl s m ss none none none none none none none none none) b__law_pause (eFrac p) s' ∧ Spr s' ∧ PV k p := by
    unfold b__law_pause
    obtain ⟨w, s1, w0, w6, q1, r1⟩ := y_pick (P := pSl s m ss none none none none none none none none none) (i := 0) rfl (De := cC (.int 6)) (XE.toY x_c) rfl hs (by decide) (by decide)
    have t1 := yn_set (i := 3) r1
    by_cases c0 : w = 0 ∨ ss = []
    · obtain ⟨d, s2, d0, d12, q2, r2⟩ := y_pick (P := pSl s1 m ss (some (.int w)) none none none none none none none none) (i := 0) rfl (De := cC (.int 12)) (XE.toY x_c) rfl q1 (by decide) (by decide)
      obtain ⟨e, s3, e0, e7, q3, r3⟩ := y_pick (P := pSl s2 m ss (some (.int w)) none none none none none none none none) (i := 0) rfl (De := cC (.int 7)) (XE.toY x_c) rfl q2 (by decide) (by decide)
      refine ⟨lowF d (1 + e), s3, z_seq t1 (z_ifT ?_ (z_ret (y_call (ys_cons r2 (ys_cons (y_c2 (XE.toY x_c) r3 (add_i 1 e)) ys_nil)) rfl (low_call d0 (by omega) ?_)) rfl)), q3, pv_of d0 (by omega) (by omega) (small_dvd (by omega) (by omega) _)⟩
      · by_cases cw : w = 0
        · exact yt_or1 (yt_v (XE.toY (x_c2 (x_rd rfl) x_c (by rw [eq_i, decide_eq_true cw]))))
        · have ce : ss = [] := c0.resolve_left cw
          refine yt_or2 (yt_v (XE.toY (x_c2 (x_rd rfl) x_c (by rw [eq_i, decide_eq_false cw])))) (yt_v (XE.toY (x_c2 (x_rd rfl) (x_cN xs_nil (mk_O (e := eStand) [] (Nat.le_of_ble_eq_true rfl))) (show eqV (.lst false (ss.map eStand)) (.lst true (([] : List Stand).map eStand)) = _ by rw [eq_l ek_Stand (by decide), decide_eq_true ce]))))
      · have : 1 + e ≤ 2 ^ 10 := by omega
        exact Int.lt_of_le_of_lt this (by decide +kernel)
    · have cw : ¬ w = 0 := fun z => c0 (.inl z)
      have ce : ¬ ss = [] := fun z => c0 (.inr z)
      have t2 : YT (pSl s1 m ss (some (.int w)) none none none none none none none none) (MV.orM (tst (c2 eqV (rdO 3) (cC (.int 0)))) (tst (c2 eqV (rdO 2) (cN mkLst nilM)))) false (pSl s1 m ss (some (.int w)) none none none none none none none none) :=
        yt_or2 (yt_v (XE.toY (x_c2 (x_rd rfl) x_c (by rw [eq_i, decide_eq_false cw])))) (yt_v (XE.toY (x_c2 (x_rd rfl) (x_cN xs_nil (mk_O (e := eStand) [] (Nat.le_of_ble_eq_true rfl))) (show eqV (.lst false (ss.map eStand)) (.lst true (([] : List Stand).map eStand)) = _ by rw [eq_l ek_Stand (by decide), decide_eq_false ce]))))
      have few := h.few hm hk
      have pos : 0 < ss.length := by
        cases ss with
        | nil => exact absurd rfl ce
        | cons _ _ => simp
      obtain ⟨d, s2, d0, dl, q2, r2⟩ := y_pick (P := pSl s1 m ss (some (.int w)) none none none none none none none none) (i := 0) rfl (De := cN lenV (consM (rdO 2) nilM)) (XE.toY (x_cN (xs_cons (x_rd rfl) xs_nil) (len_l eStand false ss))) rfl q1 (by omega) (by omega)
      have ind : InI ss d := ⟨by omega, dl⟩
      have hp := getI_mem ind
      have t3 : XO (pSl s1 m ss (some (.int w)) none none none none none none none none) (asgM (tupT 2 (consT (nameT 4) (consT (nameT 5) nilT))) (c2 idxV (rdE 2) (callIO m__law_pick 0 (consM (cN lenV (consM (rdO 2) nilM)) nilM)))) (.nx (pSl s2 m ss (some (.int w)) (some (.int (getI ss d).1)) (some (eT eFrac (getI ss d).2)) none none none none none none)) :=
        yn_asg (y_c2 (XE.toY (x_rdE rfl (ep_L ep_Stand ss))) r2 (ix_l ep_Stand ind)) (xg_t rfl (xgs_cons xg_n (xgs_cons xg_n xgs_nil)))
      generalize getI ss d = p at hp t3
      obtain ⟨p0, p3, pl, pv⟩ := h.st p hp
      have l6 := hm.l6
      have l1 := hm.l1
      have in0 : InI m.2 0 := ⟨by omega, by omega⟩
      have hes : ∀ e ∈ ((m.2.filter fun e => decide (e.1 = p.1)).map fun e => e) ++ [getI m.2 0], e ∈ m.2 := fun e he => by
        rcases List.mem_append.mp he with he | he
        · rw [List.map_id'] at he
          exact (List.mem_filter.mp he).1
        · rw [List.mem_singleton.mp he]
          exact getI_mem in0
      have fl := List.length_filter_le (fun e : Edge => decide (e.1 = p.1)) m.2
      have esl : 0 < (((m.2.filter fun e => decide (e.1 = p.1)).map fun e => e) ++ [getI m.2 0]).length ∧ (((m.2.filter fun e => decide (e.1 = p.1)).map fun e => e) ++ [getI m.2 0]).length ≤ 7 := by
        rw [List.length_append, List.length_map, List.length_singleton]
        omega
      have t4 : XO (pSl s2 m ss (some (.int w)) (some (.int p.1)) (some (eT eFrac p.2)) none none none none none none) (setM 6 (c2 addV (lcM (seqI (c2 idxV (rdO 1) (cC (.int 1)))) (nameT 7) (tst (c2 eqV (c2 idxV (rdO 7) (cC (.int 0))) (rdO 4))) (rdE 7) [7]) (cN mkLst (consM (c2 idxV (c2 idxV (rdO 1) (cC (.int 1))) (cC (.int 0))) nilM))))
          (.nx (pSl s2 m ss (some (.int w)) (some (.int p.1)) (some (eT eFrac p.2)) (some (eO eEdge (((m.2.filter fun e => decide (e.1 = p.1)).map fun e => e) ++ [getI m.2 0]))) none none none none none)) :=
        xn_set (x_c2 (x_lcf (P := pSl s2 m ss (some (.int w)) (some (.int p.1)) (some (eT eFrac p.2)) none none none none none none) (g := eEdge) (e := eEdge) (t := fun e => decide (e.1 = p.1)) (f := fun e => e)
            (tp := fun e => pSl s2 m ss (some (.int w)) (some (.int p.1)) (some (eT eFrac p.2)) none (some (eEdge e)) none none none none)
            (xi_T (x_c2 (x_rd rfl) x_c (ix2_1 (ep_T ep_Edge))) ep_Edge) (own_ok rfl) (fun e => MV.fit_le (le_eq (le_eq (le_eq (le_eq (le_eq (le_eq (le_any (le_any (le_any (le_any (le_any (le_any le_nil)))))))))))) (own_ok rfl))
            (fun e he => ⟨xg_n, xt_v (x_c2 (x_c2 (x_rd rfl) x_c (ix5_0 ep_i)) (x_rd rfl) (eq_i _ _)), fun _ => x_rdE rfl (ep_Edge _)⟩) (by rw [List.length_map, sizeLine_eq]; omega))
          (x_cN (xs_cons (x_c2 (x_c2 (x_rd rfl) x_c (ix2_1 (ep_T ep_Edge))) x_c (ix_T ep_Edge in0)) xs_nil) (mk_O (e := eEdge) [getI m.2 0] (Nat.le_of_ble_eq_true rfl)))
          (cat_l ep_Edge (by rw [List.length_map, List.length_singleton, sizeLine_eq]; omega)))
      generalize ((m.2.filter fun e => decide (e.1 = p.1)).map fun e => e) ++ [getI m.2 0] = es at hes esl t4
      obtain ⟨d2, s3, d20, d2l, q3, r3⟩ := y_pick (P := pSl s2 m ss (some (.int w)) (some (.int p.1)) (some (eT eFrac p.2)) (some (eL eEdge es)) none none none none none) (i := 0) rfl (De := cN lenV (consM (rdO 6) nilM)) (XE.toY (x_cN (xs_cons (x_rd rfl) xs_nil) (len_l eEdge false es))) rfl q2 (by omega) (by omega)
      obtain ⟨d3, s4, d30, d3l, q4, r4⟩ := y_pick (P := pSl s3 m ss (some (.int w)) (some (.int p.1)) (some (eT eFrac p.2)) (some (eL eEdge es)) none none none none none) (i := 0) rfl (De := c2 idxV (rdO 1) (cC (.int 0))) (XE.toY (x_c2 (x_rd rfl) x_c (ix2_0 ep_i))) rfl q3 (by omega) (by omega)
      have ine : InI es d2 := ⟨by omega, d2l⟩
      have he := hes _ (getI_mem ine)
      have t5 : XO (pSl s2 m ss (some (.int w)) (some (.int p.1)) (some (eT eFrac p.2)) (some (eO eEdge es)) none none none none none) (parM 7 8 (consM (c2 idxV (rdE 6) (callIO m__law_pick 0 (consM (cN lenV (consM (rdO 6) nilM)) nilM))) (consM (callIO m__law_pick 0 (consM (c2 idxV (rdO 1) (cC (.int 0))) nilM)) nilM)))
          (.nx (pSl s4 m ss (some (.int w)) (some (.int p.1)) (some (eT eFrac p.2)) (some (eL eEdge es)) (some (eEdge (getI es d2))) (some (.int d3)) none none none)) :=
        yn_par (ys_cons (y_c2 (y_rdF (P := pSl s2 m ss (some (.int w)) (some (.int p.1)) (some (eT eFrac p.2)) (some (eO eEdge es)) none none none none none) (i := 6) (m := true) rfl (ep_Edge.list es)) r3 (ix_l ep_Edge ine)) (ys_cons r4 ys_nil))
      generalize getI es d2 = e at he t5
      have hve := hm.ev e he
      have inb : InI e.2.2.1 d3 := ⟨by omega, by rw [hve.bl]; exact d3l⟩
      have inv : InI p.2 d3 := ⟨by omega, by rw [pl]; exact d3l⟩
      have hb := hve.bv _ (getI_mem inb)
      have hv := h.fv _ (pv _ (getI_mem inv))
      obtain ⟨d5, s5, d50, d5l, q5, r5⟩ := y_pick (P := pSl s4 m ss (some (.int w)) (some (.int p.1)) (some (eT eFrac p.2)) (some (eL eEdge es)) (some (eEdge e)) (some (.int d3)) none none none) (i := 0) rfl (De := cC (.int 2)) (XE.toY x_c) rfl q4 (by decide) (by decide)
      have g5 : ∃ g : Int, 0 ≤ g ∧ g ≤ 5 ∧ idxV (eBound (getI e.2.2.1 d3)) (.int (2 * d5)) = some (.int g) := by
        have : d5 = 0 ∨ d5 = 1 := by omega
        have b1 := hb.lo0
        have b2 := hb.lo4
        have b3 := hb.le
        have b4 := hb.hi5
        rcases this with rfl | rfl
        · exact ⟨_, b1, by omega, ix4_0 ep_i⟩
        · exact ⟨_, by omega, b4, ix4_2 ep_i⟩
      obtain ⟨g, g0, g5', hg⟩ := g5
      have t6 : XO (pSl s4 m ss (some (.int w)) (some (.int p.1)) (some (eT eFrac p.2)) (some (eL eEdge es)) (some (eEdge e)) (some (.int d3)) none none none) (asgM (tupT 2 (consT (nameT 9) (consT (tupT 2 (consT (nameT 10) (consT (nameT 11) nilT))) nilT))) (cN mkTup (consM (c2 modV (c2 idxV (c2 idxV (c2 idxV (rdO 7) (cC (.int 2))) (rdO 8)) (c2 mulV (cC (.int 2)) (callIO m__law_pick 0 (consM (cC (.int 2)) nilM)))) (cC (.int 5))) (consM (c2 idxV (rdO 5) (rdO 8)) nilM))))
          (.nx (pSl s5 m ss (some (.int w)) (some (.int p.1)) (some (eT eFrac p.2)) (some (eL eEdge es)) (some (eEdge e)) (some (.int d3)) (some (.int (g % 5))) (some (.int (getI p.2 d3).1)) (some (.int (getI p.2 d3).2)))) :=
        yn_asg (y_cN (ys_cons (y_c2 (y_c2 (XE.toY (x_c2 (x_c2 (x_rd rfl) x_c (ix5_2 (ep_T ep_Bound))) (x_rd rfl) (ix_T ep_Bound inb))) (y_c2 (XE.toY x_c) r5 (mul_i (a := 2) (mulOk_small (by decide) (by decide)))) hg) (XE.toY x_c) (mod_i (by decide)))
          (ys_cons (XE.toY (x_c2 (x_rd rfl) (x_rd rfl) (ix_T ep_Frac inv))) ys_nil)) (mk_2 (ea := Val.int) (eb := eFrac))) (xg_t rfl (xgs_cons xg_n (xgs_cons (xg_t rfl (xgs_cons xg_n (xgs_cons xg_n xgs_nil))) xgs_nil)))
      obtain ⟨G, hG⟩ : ∃ G, G = g % 5 := ⟨_, rfl⟩
      have G0 : 0 ≤ G := by omega
      have G4 : G ≤ 4 := by omega
      rw [← hG] at t6
      obtain ⟨v, ev⟩ : ∃ v, v = getI p.2 d3 := ⟨_, rfl⟩
      rw [← ev] at hv t6
      have vp := hv.fr.pos
      have vt := hv.fr.top
      have vl : v.2 ≤ DD k := Int.le_of_dvd (DD_pos k) hv.dv
      have m9 : ∀ (c x : Int), -1000000 ≤ c → c ≤ 1000000 → mulOk c x = true := fun c x h1 h2 => mulOk_small h1 h2
      by_cases w1 : w = 1
      · refine ⟨_, s5, z_seq t1 (z_ifF t2 (z_seq t3 (z_seq t4 (z_seq t5 (z_seq t6 (z_ifT (XT.toY (xt_v (x_c2 (x_rd rfl) x_c (by rw [eq_i, decide_eq_true w1])))) (z_ret (y_call (XEs.toY (xs_cons
          (x_cN (xs_cons x_c (xs_cons (x_c2 (x_c2 (x_c2 (x_c2 x_c (x_rd rfl) (mul_i (m9 _ _ (by decide) (by decide)))) (x_rd rfl) (mul_i (m9 _ _ (by omega) (by omega)))) (x_c2 x_c (x_rd rfl) (mul_i (m9 _ _ (by decide) (by decide)))) (sub_i _ _)) (x_rd rfl) (add_i _ _)) xs_nil)) (max_i _ _))
          (xs_cons (x_c2 x_c (x_rd rfl) (mul_i (m9 _ _ (by decide) (by decide)))) xs_nil))) rfl (low_call ?_ (by omega) (small_lt (k := k) (by omega) (by omega)))) rfl))))))), q5, pv_of ?_ (by omega) ?_ (mul_dvd hv.dv (by decide))⟩
        · split <;> omega
        · split <;> omega
        · have : 2 * G * v.2 ≤ 8 * v.2 := Int.mul_le_mul_of_nonneg_right (by omega) (by omega)
          split <;> omega
      · by_cases w2 : w = 2
        · refine ⟨_, s5, z_seq t1 (z_ifF t2 (z_seq t3 (z_seq t4 (z_seq t5 (z_seq t6 (z_ifF (XT.toY (xt_v (x_c2 (x_rd rfl) x_c (by rw [eq_i, decide_eq_false w1])))) (z_ifT (XT.toY (xt_v (x_c2 (x_rd rfl) x_c (by rw [eq_i, decide_eq_true w2])))) (z_ret (y_call (XEs.toY (xs_cons
            (x_cN (xs_cons x_c (xs_cons (x_c2 (x_c2 (x_c2 (x_c2 x_c (x_rd rfl) (mul_i (m9 _ _ (by decide) (by decide)))) (x_rd rfl) (mul_i (m9 _ _ (by omega) (by omega)))) (x_c2 x_c (x_rd rfl) (mul_i (m9 _ _ (by decide) (by decide)))) (sub_i _ _)) (x_rd rfl) (sub_i _ _)) xs_nil)) (max_i _ _))
            (xs_cons (x_c2 x_c (x_rd rfl) (mul_i (m9 _ _ (by decide) (by decide)))) xs_nil))) rfl (low_call ?_ (by omega) (small_lt (k := k) (by omega) (by omega)))) rfl)))))))), q5, pv_of ?_ (by omega) ?_ (mul_dvd hv.dv (by decide))⟩
          · split <;> omega
          · split <;> omega
          · have : 3 * G * v.2 ≤ 12 * v.2 := Int.mul_le_mul_of_nonneg_right (by omega) (by omega)
            split <;> omega
        · refine ⟨_, s5, z_seq t1 (z_ifF t2 (z_seq t3 (z_seq t4 (z_seq t5 (z_seq t6 (z_ifF (XT.toY (xt_v (x_c2 (x_rd rfl) x_c (by rw [eq_i, decide_eq_false w1])))) (z_ifF (XT.toY (xt_v (x_c2 (x_rd rfl) x_c (by rw [eq_i, decide_eq_false w2])))) (z_ret (y_call (XEs.toY (xs_cons
            (x_cN (xs_cons x_c (xs_cons (x_c2 (x_c2 (x_rd rfl) (x_rd rfl) (mul_i (m9 _ _ (by omega) (by omega)))) (x_rd rfl) (sub_i _ _)) xs_nil)) (max_i _ _))
            (xs_cons (x_rd rfl) xs_nil))) rfl (low_call ?_ (by omega) (small_lt (k := k) (by omega) (by omega)))) rfl)))))))), q5, pv_of ?_ (by omega) ?_ (DD_dvd hv.dv)⟩
          · split <;> omega
          · split <;> omega
          · have : G * v.2 ≤ 4 * v.2 := Int.mul_le_mul_of_nonneg_right (by omega) (by omega)
            split <;> omega
  obtain ⟨p, s', z, q, pv⟩ := key
  exact ⟨p, s', z_fn rfl z, q, pv⟩
end LW
end

section
set_option maxHeartbeats 4000000
/-! the law -/
namespace LW
open MV PySem RP
theorem tw_frac (n : Nat) (v : Frac) : (eFrac v).tw (n + 2) = true := by simp [eFrac, e2, Val.tw, twL]
theorem twL_map {α : Type} {e : α → Val} {n : Nat} {xs : List α} (h : ∀ x ∈ xs, (e x).tw n = true) : twL n (xs.map e) = true := by
  rw [twL_all]
  refine List.all_eq_true.mpr fun y hy => ?_
  obtain ⟨a, ha, rfl⟩ := List.mem_map.mp hy
  exact h a ha
theorem tw_stand (n : Nat) {p : Stand} (h : p.2.length ≤ 2) : (eStand p).tw (n + 4) = true := by
  have e1 : twL (n + 2) (p.2.map eFrac) = true := twL_map fun v _ => tw_frac n v
  have e2 : decide ((p.2.map eFrac).length ≤ 10000000) = true := decide_eq_true (by rw [List.length_map]; omega)
  show (Val.tup [.int p.1, .tup (p.2.map eFrac)]).tw (n + 4) = true
  simp only [Val.tw, twL, e1, e2, Bool.and_self, Bool.and_true, List.length_cons, List.length_nil]
  exact decide_eq_true (by omega)
theorem tw_stands (n : Nat) {ss : List Stand} (h : ∀ p ∈ ss, p.2.length ≤ 2) (hl : ss.length ≤ 10000) : (eL eStand ss).tw (n + 5) = true := by
  have e1 : twL (n + 4) (ss.map eStand) = true := twL_map fun p hp => tw_stand n (h p hp)
  have e2 : decide ((ss.map eStand).length ≤ 10000000) = true := decide_eq_true (by rw [List.length_map]; omega)
  show (Val.lst false (ss.map eStand)).tw (n + 5) = true
  simp only [Val.tw, e1, e2, Bool.not_false, Bool.and_self]
theorem IS.two {m : Mach} (hm : VM m) {k : Nat} {L : List Frac} {ss : List Stand} (h : IS m k L ss) : ∀ p ∈ ss, p.2.length ≤ 2 := fun p hp => by
  have := (h.st p hp).2.2.1
  have := hm.cl
  omega
/-- twins of two lists of stands that are one -/
theorem twins_stands {m : Mach} (hm : VM m) {k : Nat} {L : List Frac} {ss : List Stand} (h : IS m k L ss) (hk : k ≤ 30) : m__law_twins 8 [eL eStand ss, eL eStand ss] = some (.bl true) :=
  twins_refl 8 _ (tw_stands 3 (IS.two hm h) (by have := h.few hm hk; omega))
theorem frz_O {α : Type} {e : α → Val} (h : EP e) (xs : List α) : (eO e xs).frz = eL e xs := by
  show Val.lst false (frzL (xs.map e)) = Val.lst false (xs.map e)
  rw [frzL_of_pure _ (h.list xs)]
/-- the slots of the law -/
abbrev lSl (ns : List Int) (at_ s : Val) (m : Mach) (row : List Beat) (fl : Bool) (ss : List Stand) (a b c d e f g : Option Val) : Sl :=
  [some (.scr ns), some at_, some s, some (eMach m), some (eT eBeat row), some (.lst fl (ss.map eStand)), a, b, c, d, e, f, g, none, none, none]
noncomputable abbrev TURN : Sv := seqM (setM 7 (callIO m__law_pause 2 (consM (rdE 3) (consM (rdE 5) nilM))))
  (seqM (setM 8 (c2 addV (lcM (seqI (rdE 5)) (tupT 2 (consT (nameT 13) (consT (nameT 14) nilT))) yesM (rdE 13) [13, 14]) (cN mkLst (consM (cC (.int 0)) nilM))))
  (seqM (setM 9 (c2 addV (lcM (seqI (c2 idxV (rdO 3) (cC (.int 1)))) (nameT 15) (tst (c2 inV2 (c2 idxV (rdO 15) (cC (.int 0))) (rdO 8))) (c2 idxV (rdO 15) (cC (.int 1))) [15]) (cN mkLst (consM (cC (.str "a")) nilM))))
  (seqM (setM 10 (cN mkTup (consM (rdE 7) (consM (c2 idxV (rdE 9) (callIO m__law_pick 2 (consM (cN lenV (consM (rdO 9) nilM)) nilM))) nilM))))
  (seqM (forM (seqI (cSl (rdO 5) partN (partS (cC (.int 4))))) (nameT 11) (ifM (MV.notM (tst (callM (m__law_twins 8) (consM (callM m_after (consM (rdO 3) (consM (rdO 11) (consM (rdO 10) nilM)))) (consM (callM m__law_behind (consM (rdO 3) (consM (cN mkLst (consM (rdE 11) nilM)) (consM (rdO 10) nilM)))) nilM))))) (retM (cC (.bl false))) nextM))
  (seqM (setM 12 (callM m__law_behind (consM (rdO 3) (consM (rdO 5) (consM (rdO 10) nilM)))))
  (ifM (MV.orM (tst (c2 neV (rdO 12) (cN mkLst nilM))) (tst (c2 eqV (callIO m__law_pick 2 (consM (cC (.int 4)) nilM)) (cC (.int 0))))) (parM 5 4 (consM (rdE 12) (consM (c2 addV (rdO 4) (cN mkTup (consM (rdE 10) nilM))) nilM))) nextM))))))
theorem turn_ok (ns : List Int) (at_ : Val) {s : Val} (hs : Spr s) {m : Mach} (hm : VM m) {row : List Beat} (hr : rowOk 0 row) {L : List Frac} {ss : List Stand} (h : IS m row.length L ss) (hk : row.length + 1 ≤ 30) (fl : Bool) (x : Val) :
    ∃ s' row' fl' L' ss', Spr s' ∧ rowOk 0 row' ∧ row'.length ≤ row.length + 1 ∧ IS m row'.length L' ss' ∧ XO (lSl ns at_ s m row fl ss (some x) none none none none none none) TURN (.nx (lSl ns at_ s' m row' fl' ss' none none none none none none none)) := by
  have few := h.few hm (by omega)
  have l6 := hm.l6
  obtain ⟨p, s1, h1, q1, pv⟩ := pause_spec hs hm h (by omega)
  have t1 : XO (lSl ns at_ s m row fl ss (some x) none none none none none none) (setM 7 (callIO m__law_pause 2 (consM (rdE 3) (consM (rdE 5) nilM)))) (.nx (lSl ns at_ s1 m row false ss (some x) (some (eFrac p)) none none none none none)) :=
    yn_set (y_callIO (y0 := s) rfl (ys_cons (XE.toY (x_rdE (P := lSl ns at_ s m row fl ss (some x) none none none none none none) rfl (ep_Mach m))) (ys_cons (y_rdF (m := fl) rfl (ep_Stand.list ss)) ys_nil)) rfl (pL_cons (ep_Mach m) (pL_cons (ep_L ep_Stand ss) rfl)) h1)
  have t2 : XO (lSl ns at_ s1 m row false ss (some x) (some (eFrac p)) none none none none none) (setM 8 (c2 addV (lcM (seqI (rdE 5)) (tupT 2 (consT (nameT 13) (consT (nameT 14) nilT))) yesM (rdE 13) [13, 14]) (cN mkLst (consM (cC (.int 0)) nilM))))
      (.nx (lSl ns at_ s1 m row false ss (some x) (some (eFrac p)) (some (eO Val.int ((ss.map fun q => q.1) ++ [0]))) none none none none)) :=
    xn_set (x_c2 (x_lc (P := lSl ns at_ s1 m row false ss (some x) (some (eFrac p)) none none none none none) (g := eStand) (e := Val.int) (f := fun q => q.1)
        (tp := fun q => [some (.scr ns), some at_, some s1, some (eMach m), some (eT eBeat row), some (.lst false (ss.map eStand)), some x, some (eFrac p), none, none, none, none, none, some (.int q.1), some (eT eFrac q.2), none])
        (xi_l (m := false) (x_rdE rfl (ep_L ep_Stand ss)) ep_Stand) (own_ok rfl) (fun q => MV.fit_le (le_eq (le_eq (le_eq (le_eq (le_eq (le_eq (le_eq (le_eq (le_any (le_any (le_any (le_any (le_any (le_any (le_any (le_any le_nil)))))))))))))))) (own_ok rfl))
        (fun q hq => ⟨xg_t rfl (xgs_cons xg_n (xgs_cons xg_n xgs_nil)), x_rdE rfl rfl⟩) (by rw [sizeLine_eq]; omega))
      (x_cN (xs_cons x_c xs_nil) (mk_O (e := Val.int) [0] (Nat.le_of_ble_eq_true rfl))) (cat_l ep_i (by rw [List.length_map, List.length_singleton, sizeLine_eq]; omega)))
  generalize ((ss.map fun q => q.1) ++ [0]) = hs8 at t2
  have fl9 := List.length_filter_le (fun e : Edge => decide (e.1 ∈ hs8)) m.2
  have t3 : XO (lSl ns at_ s1 m row false ss (some x) (some (eFrac p)) (some (eO Val.int hs8)) none none none none) (setM 9 (c2 addV (lcM (seqI (c2 idxV (rdO 3) (cC (.int 1)))) (nameT 15) (tst (c2 inV2 (c2 idxV (rdO 15) (cC (.int 0))) (rdO 8))) (c2 idxV (rdO 15) (cC (.int 1))) [15]) (cN mkLst (consM (cC (.str "a")) nilM))))
      (.nx (lSl ns at_ s1 m row false ss (some x) (some (eFrac p)) (some (eO Val.int hs8)) (some (eO eSg (((m.2.filter fun e => decide (e.1 ∈ hs8)).map fun e => e.2.1) ++ [Sg.a]))) none none none)) :=
    xn_set (x_c2 (x_lcf (P := lSl ns at_ s1 m row false ss (some x) (some (eFrac p)) (some (eO Val.int hs8)) none none none none) (g := eEdge) (e := eSg) (t := fun e => decide (e.1 ∈ hs8)) (f := fun e => e.2.1)
        (tp := fun e => [some (.scr ns), some at_, some s1, some (eMach m), some (eT eBeat row), some (.lst false (ss.map eStand)), some x, some (eFrac p), some (eO Val.int hs8), none, none, none, none, none, none, some (eEdge e)])
        (xi_T (x_c2 (x_rd rfl) x_c (ix2_1 (ep_T ep_Edge))) ep_Edge) (own_ok rfl) (fun e => MV.fit_le (le_eq (le_eq (le_eq (le_eq (le_eq (le_eq (le_eq (le_eq (le_eq (le_any (le_any (le_any (le_any (le_any (le_any (le_any le_nil)))))))))))))))) (own_ok rfl))
        (fun e he => ⟨xg_n, xt_v (x_c2 (x_c2 (x_rd rfl) x_c (ix5_0 ep_i)) (x_rd rfl) (in_l (m := true) ek_i (by decide) _ _)), fun _ => x_c2 (x_rd rfl) x_c (ix5_1 ep_sg)⟩) (by rw [List.length_map, sizeLine_eq]; omega))
      (x_cN (xs_cons x_c xs_nil) (mk_O (e := eSg) [Sg.a] (Nat.le_of_ble_eq_true rfl))) (cat_l ep_sg (by rw [List.length_map, List.length_singleton, sizeLine_eq]; omega)))
  have sgl : 0 < (((m.2.filter fun e => decide (e.1 ∈ hs8)).map fun e => e.2.1) ++ [Sg.a]).length ∧ (((m.2.filter fun e => decide (e.1 ∈ hs8)).map fun e => e.2.1) ++ [Sg.a]).length ≤ 7 := by
    rw [List.length_append, List.length_map, List.length_singleton]
    omega
  generalize (((m.2.filter fun e => decide (e.1 ∈ hs8)).map fun e => e.2.1) ++ [Sg.a]) = sgs at t3 sgl
  obtain ⟨d, s2, d0, dl, q2, r2⟩ := y_pick (P := lSl ns at_ s1 m row false ss (some x) (some (eFrac p)) (some (eO Val.int hs8)) (some (eL eSg sgs)) none none none) (i := 2) rfl (De := cN lenV (consM (rdO 9) nilM)) (XE.toY (x_cN (xs_cons (x_rd rfl) xs_nil) (len_l eSg false sgs))) rfl q1 (by omega) (by omega)
  have ind : InI sgs d := ⟨by omega, dl⟩
  have t4 : XO (lSl ns at_ s1 m row false ss (some x) (some (eFrac p)) (some (eO Val.int hs8)) (some (eO eSg sgs)) none none none) (setM 10 (cN mkTup (consM (rdE 7) (consM (c2 idxV (rdE 9) (callIO m__law_pick 2 (consM (cN lenV (consM (rdO 9) nilM)) nilM))) nilM))))
      (.nx (lSl ns at_ s2 m row false ss (some x) (some (eFrac p)) (some (eO Val.int hs8)) (some (eL eSg sgs)) (some (eBeat (p, getI sgs d))) none none)) :=
    yn_set (y_cN (ys_cons (XE.toY (x_rdE (P := lSl ns at_ s1 m row false ss (some x) (some (eFrac p)) (some (eO Val.int hs8)) (some (eO eSg sgs)) none none none) rfl (ep_Frac p)))
      (ys_cons (y_c2 (y_rdF (P := lSl ns at_ s1 m row false ss (some x) (some (eFrac p)) (some (eO Val.int hs8)) (some (eO eSg sgs)) none none none) (i := 9) (m := true) rfl (ep_sg.list sgs)) r2 (ix_l ep_sg ind)) ys_nil)) (mk_2 (ea := eFrac) (eb := eSg)))
  obtain ⟨b, eb⟩ : ∃ b : Beat, b = (p, getI sgs d) := ⟨_, rfl⟩
  rw [← eb] at t4
  have hb : BV row.length b := by rw [eb]; exact ⟨pv.fr, pv.at_, pv.dv⟩
  have fin := behind_is hm h hb (by omega)
  have nxt' := h.next hm hb
  have t5 : XO (lSl ns at_ s2 m row false ss (some x) (some (eFrac p)) (some (eO Val.int hs8)) (some (eL eSg sgs)) (some (eBeat b)) none none) (forM (seqI (cSl (rdO 5) partN (partS (cC (.int 4))))) (nameT 11) (ifM (MV.notM (tst (callM (m__law_twins 8) (consM (callM m_after (consM (rdO 3) (consM (rdO 11) (consM (rdO 10) nilM)))) (consM (callM m__law_behind (consM (rdO 3) (consM (cN mkLst (consM (rdE 11) nilM)) (consM (rdO 10) nilM)))) nilM))))) (retM (cC (.bl false))) nextM))
      (.nx (lSl ns at_ s2 m row false ss (some x) (some (eFrac p)) (some (eO Val.int hs8)) (some (eL eSg sgs)) (some (eBeat b)) none none)) := by
    have hin : ∀ q ∈ cutX ss none (some 4), q ∈ ss := fun q hq => List.mem_of_mem_drop (List.mem_of_mem_take hq)
    refine xn_for (σ := Unit) (xs := cutX ss none (some 4)) (s0 := ()) (st := fun _ => lSl ns at_ s2 m row false ss (some x) (some (eFrac p)) (some (eO Val.int hs8)) (some (eL eSg sgs)) (some (eBeat b)) none none) (f := fun _ _ => ()) (d := fun _ q => q ∈ ss) (g := eStand)
      (tp := fun _ q => lSl ns at_ s2 m row false ss (some x) (some (eFrac p)) (some (eO Val.int hs8)) (some (eL eSg sgs)) (some (eBeat b)) (some (eStand q)) none)
      (xi_l (m := true) (x_sl (x_rd rfl) xp_n (xp_s x_c) (sl_l (m := false) ep_Stand)) ep_Stand) (le_eq (le_eq (le_eq (le_eq (le_eq (le_eq (le_eq (le_eq (le_eq (le_eq (le_eq (le_any (le_any (le_any (le_any (le_any le_nil)))))))))))))))) ?_ (fun _ q _ => xg_n) (fun _ q hq => ?_)
    · exact (DFor.of (fun _ => True) trivial fun _ q hq _ => ⟨hin q hq, trivial⟩).1
    · obtain ⟨⟨a1, a2⟩, a3, a4⟩ := after_ok hm h hb (by omega) hq
      have one := (h.one hq).next hm hb
      have tw := twins_stands hm one (by omega)
      have e1 : m_after [eMach m, eStand q, eBeat b] = some (eO eStand (setX eStand (nxts m [q] b))) := by rw [x_after m q b a1, a2]
      have e2 : m__law_behind [eMach m, eL eStand [q], eBeat b] = some (eO eStand (setX eStand (nxts m [q] b))) := by rw [x__law_behind m [q] b a3, a4]
      generalize setX eStand (nxts m [q] b) = R at e1 e2 tw
      refine xn_le (yn_ifF (yt_not (a := true) (yt_v (y_callo (ws := [eL eStand R, eL eStand R]) (ys_cons (XE.toY (x_call (xs_cons (x_rd rfl) (xs_cons (x_rd rfl) (xs_cons (x_rd rfl) xs_nil))) (pL_cons (ep_Mach m) (pL_cons (ep_Stand q) (pL_cons (ep_Beat b) rfl))) e1))
        (ys_cons (XE.toY (x_callo (ws := [eMach m, eL eStand [q], eBeat b]) (xs_cons (x_rd rfl) (xs_cons (x_cN (xs_cons (x_rdE rfl (ep_Stand q)) xs_nil) (mk_O (e := eStand) [q] (Nat.le_of_ble_eq_true rfl))) (xs_cons (x_rd rfl) xs_nil))) ?_ e2 (eo_O (eo_2 eo_i (eo_T (eo_2 eo_i eo_i))) R))) ys_nil)) ?_ tw rfl))) xn_next)
        (le_eq (le_eq (le_eq (le_eq (le_eq (le_eq (le_eq (le_eq (le_eq (le_eq (le_eq (le_any (le_any (le_any (le_any (le_any le_nil))))))))))))))))
      · simp only [frzL, frz_of_pure _ (ep_Mach m), frz_of_pure _ (ep_Beat b), frz_O ep_Stand]
      · simp only [frzL, frz_O ep_Stand]
  obtain ⟨_, a3, a4⟩ := fin
  have e6 : m__law_behind [eMach m, eL eStand ss, eBeat b] = some (eO eStand (setX eStand (nxts m ss b))) := by rw [x__law_behind m ss b a3, a4]
  generalize setX eStand (nxts m ss b) = R at e6 nxt'
  have t6 : XO (lSl ns at_ s2 m row false ss (some x) (some (eFrac p)) (some (eO Val.int hs8)) (some (eL eSg sgs)) (some (eBeat b)) none none) (setM 12 (callM m__law_behind (consM (rdO 3) (consM (rdO 5) (consM (rdO 10) nilM)))))
      (.nx (lSl ns at_ s2 m row false ss (some x) (some (eFrac p)) (some (eO Val.int hs8)) (some (eL eSg sgs)) (some (eBeat b)) none (some (eO eStand R)))) :=
    xn_set (x_call (xs_cons (x_rd rfl) (xs_cons (x_rd rfl) (xs_cons (x_rd rfl) xs_nil))) (pL_cons (ep_Mach m) (pL_cons (ep_L ep_Stand ss) (pL_cons (ep_Beat b) rfl))) e6)
  have lef : ∀ (s : Val) (row : List Beat) (ss : List Stand) (g : Option Val), Le (lSl ns at_ s m row false ss (some x) (some (eFrac p)) (some (eO Val.int hs8)) (some (eL eSg sgs)) (some (eBeat b)) none g) (lSl ns at_ s m row false ss none none none none none none none) := fun s row ss g =>
    le_eq (le_eq (le_eq (le_eq (le_eq (le_eq (le_any (le_any (le_any (le_any (le_any (le_any (le_any (le_any (le_any (le_any le_nil)))))))))))))))
  have taken : ∀ s3, XO (lSl ns at_ s3 m row false ss (some x) (some (eFrac p)) (some (eO Val.int hs8)) (some (eL eSg sgs)) (some (eBeat b)) none (some (eO eStand R))) (parM 5 4 (consM (rdE 12) (consM (c2 addV (rdO 4) (cN mkTup (consM (rdE 10) nilM))) nilM)))
      (.nx (lSl ns at_ s3 m (row ++ [b]) false R none none none none none none none)) := fun s3 =>
    xn_le (yn_par (ys_cons (y_rdF (P := lSl ns at_ s3 m row false ss (some x) (some (eFrac p)) (some (eO Val.int hs8)) (some (eL eSg sgs)) (some (eBeat b)) none (some (eO eStand R))) (i := 12) (m := true) rfl (ep_Stand.list R))
      (ys_cons (XE.toY (x_c2 (x_rd rfl) (x_cN (xs_cons (x_rdE rfl (ep_Beat b)) xs_nil) (mk_T (e := eBeat) [b] (Nat.le_of_ble_eq_true rfl))) (cat_T ep_Beat (by rw [List.length_singleton, sizeLine_eq]; omega)))) ys_nil))) (lef s3 (row ++ [b]) R _)
  have hrow : rowOk 0 (row ++ [b]) := rowOk_snoc hr (by rw [Nat.zero_add]; exact hb)
  have hlen : (row ++ [b]).length = row.length + 1 := by rw [List.length_append, List.length_singleton]
  have pre : ∀ {o : Out}, XO (lSl ns at_ s2 m row false ss (some x) (some (eFrac p)) (some (eO Val.int hs8)) (some (eL eSg sgs)) (some (eBeat b)) none (some (eO eStand R))) (ifM (MV.orM (tst (c2 neV (rdO 12) (cN mkLst nilM))) (tst (c2 eqV (callIO m__law_pick 2 (consM (cC (.int 4)) nilM)) (cC (.int 0))))) (parM 5 4 (consM (rdE 12) (consM (c2 addV (rdO 4) (cN mkTup (consM (rdE 10) nilM))) nilM))) nextM) o →
      XO (lSl ns at_ s m row fl ss (some x) none none none none none none) TURN o := fun h => xo_seq t1 (xo_seq t2 (xo_seq t3 (xo_seq t4 (xo_seq t5 (xo_seq t6 h)))))
  by_cases c : R = []
  · have nf : XE (lSl ns at_ s2 m row false ss (some x) (some (eFrac p)) (some (eO Val.int hs8)) (some (eL eSg sgs)) (some (eBeat b)) none (some (eO eStand R))) (c2 neV (rdO 12) (cN mkLst nilM)) (.bl false) :=
      x_c2 (x_rd rfl) (x_cN xs_nil (mk_O (e := eStand) [] (Nat.le_of_ble_eq_true rfl))) (show neV (.lst true (R.map eStand)) (.lst true (([] : List Stand).map eStand)) = _ by rw [ne_l ek_Stand (by decide), decide_eq_true c]; rfl)
    obtain ⟨w, s3, w0, w4, q3, r3⟩ := y_pick (P := lSl ns at_ s2 m row false ss (some x) (some (eFrac p)) (some (eO Val.int hs8)) (some (eL eSg sgs)) (some (eBeat b)) none (some (eO eStand R))) (i := 2) rfl (De := cC (.int 4)) (XE.toY x_c) rfl q2 (by decide) (by decide)
    by_cases cw : w = 0
    · exact ⟨s3, row ++ [b], false, _, R, q3, hrow, by omega, by rw [hlen]; exact nxt', pre (yn_ifT (yt_or2 (yt_v (XE.toY nf)) (yt_v (y_c2 r3 (XE.toY x_c) (by rw [eq_i, decide_eq_true cw])))) (taken s3))⟩
    · exact ⟨s3, row, false, L, ss, q3, hr, by omega, h, pre (yn_ifF (yt_or2 (yt_v (XE.toY nf)) (yt_v (y_c2 r3 (XE.toY x_c) (by rw [eq_i, decide_eq_false cw])))) (xn_le xn_next (lef s3 row ss _)))⟩
  · have nt : XE (lSl ns at_ s2 m row false ss (some x) (some (eFrac p)) (some (eO Val.int hs8)) (some (eL eSg sgs)) (some (eBeat b)) none (some (eO eStand R))) (c2 neV (rdO 12) (cN mkLst nilM)) (.bl true) :=
      x_c2 (x_rd rfl) (x_cN xs_nil (mk_O (e := eStand) [] (Nat.le_of_ble_eq_true rfl))) (show neV (.lst true (R.map eStand)) (.lst true (([] : List Stand).map eStand)) = _ by rw [ne_l ek_Stand (by decide), decide_eq_false c]; rfl)
    exact ⟨s2, row ++ [b], false, _, R, q2, hrow, by omega, by rw [hlen]; exact nxt', pre (yn_ifT (yt_or1 (yt_v (XE.toY nt))) (taken s2))⟩
end LW
end

section
set_option maxHeartbeats 4000000
/-! the law: all turns, all cells -/
namespace LW
open MV PySem RP
/-- what stands at a cell's end -/
theorem end_ok (ns : List Int) (at_ s : Val) {m : Mach} (hm : VM m) {row : List Beat} (hr : rowOk 0 row) {fl : Bool} {L : List Frac} {ss : List Stand} (h : IS m row.length L ss) (hk : row.length ≤ 30) :
    XO (lSl ns at_ s m row fl ss none none none none none none none) (ifM (MV.notM (tst (callM (m__law_twins 8) (consM (cN mkLst (consM (callM m_stands_behind (consM (rdO 3) (consM (rdO 4) nilM))) (consM (callM m_moment (consM (rdO 4) nilM)) nilM))) (consM (cN mkLst (consM (callM m__law_run (consM (rdO 3) (consM (rdO 4) nilM))) (consM (callM m__law_total (consM (rdO 4) nilM)) nilM))) nilM))))) (retM (cC (.bl false))) nextM)
      (.nx (lSl ns at_ s m row fl ss none none none none none none none)) := by
  obtain ⟨⟨a1, a2⟩, a3, a4⟩ := stands_behind_ok hm hr hk
  obtain ⟨w, hw, ⟨b1, b2⟩, b3, b4⟩ := moment_ok hr hk
  obtain ⟨L', h'⟩ := run_is hm (beg_is hm) hr (by omega)
  have e1 : m_stands_behind [eMach m, eT eBeat row] = some (eL eStand (runF m [begF m] row)) := by rw [x_stands_behind m row a1, a2]
  have e2 : m__law_run [eMach m, eT eBeat row] = some (eL eStand (runF m [begF m] row)) := by rw [x__law_run m row a3, a4]
  have e3 : m_moment [eT eBeat row] = some (eFrac w) := by rw [x_moment row b1, b2]
  have e4 : m__law_total [eT eBeat row] = some (eFrac w) := by rw [x__law_total row b3, b4]
  have few := h'.few hm (by omega)
  have two := IS.two hm h'
  generalize runF m [begF m] row = R at e1 e2 few two
  have pa : pureL [eMach m, eT eBeat row] = true := pL_cons (ep_Mach m) (pL_cons (ep_T ep_Beat row) rfl)
  have pb : pureL [eT eBeat row] = true := pL_cons (ep_T ep_Beat row) rfl
  have tv : (Val.lst false [eL eStand R, eFrac w]).tw 8 = true := by
    have t1 := tw_stands 2 two (by omega)
    have t2 := tw_frac 5 w
    simp only [Val.tw, twL, t1, t2, List.length_cons, List.length_nil, Bool.and_self, Bool.not_false, Bool.and_true, Bool.true_and]
    exact decide_eq_true (by omega)
  have tw := twins_refl 8 _ tv
  refine yn_ifF (yt_not (a := true) (yt_v (y_callo (ws := [.lst false [eL eStand R, eFrac w], .lst false [eL eStand R, eFrac w]])
    (XEs.toY (xs_cons (x_cN (xs_cons (x_call (xs_cons (x_rd rfl) (xs_cons (x_rd rfl) xs_nil)) pa e1) (xs_cons (x_call (xs_cons (x_rd rfl) xs_nil) pb e3) xs_nil)) (mkLst_ok (Nat.le_of_ble_eq_true rfl)))
      (xs_cons (x_cN (xs_cons (x_call (xs_cons (x_rd rfl) (xs_cons (x_rd rfl) xs_nil)) pa e2) (xs_cons (x_call (xs_cons (x_rd rfl) xs_nil) pb e4) xs_nil)) (mkLst_ok (Nat.le_of_ble_eq_true rfl))) xs_nil))) ?_ tw rfl))) xn_next
  simp only [frzL, Val.frz, frz_of_pure _ (ep_L ep_Stand R), frz_of_pure _ (ep_Frac w)]
abbrev P0 (ns : List Int) : Sl := [some (.scr ns), none, none, none, none, none, none, none, none, none, none, none, none, none, none, none]
theorem body_ok (ns : List Int) {i : Int} (hi : 0 ≤ i) (τ : Sl) (hf : Fit ((P0 ns).set 1 (some (.int i))) τ) : ∃ τ', (seqM (setM 2 (callM m__law_spring (consM (rdO 0) (consM (rdO 1) nilM))))
  (seqM (parM 3 4 (consM (callIO m__law_machine 2 (consM (cC (.int 6)) nilM)) (consM (cN mkTup nilM) nilM)))
  (seqM (setM 5 (callM m__law_run (consM (rdO 3) (consM (cN mkTup nilM) nilM))))
  (seqM (forM (rng1I (consM (callIO m__law_pick 2 (consM (cC (.int 31)) nilM)) nilM)) (nameT 6) TURN)
  (ifM (MV.notM (tst (callM (m__law_twins 8) (consM (cN mkLst (consM (callM m_stands_behind (consM (rdO 3) (consM (rdO 4) nilM))) (consM (callM m_moment (consM (rdO 4) nilM)) nilM))) (consM (cN mkLst (consM (callM m__law_run (consM (rdO 3) (consM (rdO 4) nilM))) (consM (callM m__law_total (consM (rdO 4) nilM)) nilM))) nilM))))) (retM (cC (.bl false))) nextM))))) τ = some (.next, τ') ∧ Fit (P0 ns) τ' := by
  obtain ⟨s, hs, q⟩ := spring_spec ns hi
  obtain ⟨m, s1, h1, q1, hm⟩ := machine_drawn q (k := 6) (by decide) (by decide)
  obtain ⟨_, a3, a4⟩ := stands_behind_ok hm (r := []) trivial (by simp)
  have e2 : m__law_run [eMach m, eT eBeat []] = some (eL eStand [begF m]) := by rw [x__law_run m [] a3, a4]; rfl
  have t1 : XO ((P0 ns).set 1 (some (.int i))) (setM 2 (callM m__law_spring (consM (rdO 0) (consM (rdO 1) nilM)))) (.nx [some (.scr ns), some (.int i), some s, none, none, none, none, none, none, none, none, none, none, none, none, none]) :=
    xn_set (x_call (xs_cons (x_rd rfl) (xs_cons (x_rd rfl) xs_nil)) rfl hs)
  have t2 : XO [some (.scr ns), some (.int i), some s, none, none, none, none, none, none, none, none, none, none, none, none, none] (parM 3 4 (consM (callIO m__law_machine 2 (consM (cC (.int 6)) nilM)) (consM (cN mkTup nilM) nilM)))
      (.nx [some (.scr ns), some (.int i), some s1, some (eMach m), some (eT eBeat []), none, none, none, none, none, none, none, none, none, none, none]) :=
    yn_par (ys_cons (y_callIO (P := [some (.scr ns), some (.int i), some s, none, none, none, none, none, none, none, none, none, none, none, none, none]) (i := 2) (y0 := s) rfl (ys_cons (XE.toY x_c) ys_nil) rfl rfl h1) (ys_cons (XE.toY (x_cN xs_nil (mk_T (e := eBeat) [] (Nat.le_of_ble_eq_true rfl)))) ys_nil))
  have t3 : XO [some (.scr ns), some (.int i), some s1, some (eMach m), some (eT eBeat []), none, none, none, none, none, none, none, none, none, none, none] (setM 5 (callM m__law_run (consM (rdO 3) (consM (cN mkTup nilM) nilM))))
      (.nx (lSl ns (.int i) s1 m [] false [begF m] none none none none none none none)) :=
    xn_set (x_call (xs_cons (x_rd rfl) (xs_cons (x_cN xs_nil (mk_T (e := eBeat) [] (Nat.le_of_ble_eq_true rfl))) xs_nil)) (pL_cons (ep_Mach m) rfl) e2)
  obtain ⟨d, s2, d0, dl, q2, r2⟩ := y_pick (P := lSl ns (.int i) s1 m [] false [begF m] none none none none none none none) (i := 2) rfl (De := cC (.int 31)) (XE.toY x_c) rfl q1 (by decide) (by decide)
  obtain ⟨τ1, k1, f1⟩ := t1 τ hf
  obtain ⟨τ2, k2, f2⟩ := t2 τ1 f1
  obtain ⟨τ3, k3, f3⟩ := t3 τ2 f2
  obtain ⟨τ4, k4, f4⟩ := yi_rng1 (ys_cons r2 ys_nil) (inR_of (by omega) (by omega)) τ3 f3
  have loop := forL_idx (S := TURN) (T := nameT 6) (fun j τ => ∃ s row fl L ss, Spr s ∧ rowOk 0 row ∧ row.length ≤ j ∧ IS m row.length L ss ∧ Fit (lSl ns (.int i) s m row fl ss none none none none none none none) τ)
    (rngL 0 d) 0 τ4 ⟨s2, [], false, _, _, q2, trivial, Nat.le_refl _, beg_is hm, f4⟩ fun j x τ hx ⟨s, row, fl, L, ss, hsp, hr, hl, his, hft⟩ => by
      have hj : j < d.toNat := by
        have := (List.getElem?_eq_some_iff.mp hx).1
        rw [rngL_length] at this
        simpa using this
      obtain ⟨s', row', fl', L', ss', b1, b2, b3, b4, b5⟩ := turn_ok ns (.int i) hsp hm hr his (by omega) fl x
      refine ⟨τ.set 6 (some x), rfl, ?_⟩
      obtain ⟨τ5, k5, f5⟩ := b5 _ (hft.set 6 x)
      exact ⟨τ5, k5, s', row', fl', L', ss', b1, b2, by omega, b4, f5⟩
  obtain ⟨τ6, k6, s6, row, fl, L, ss, c1, c2, c3, c4, c5⟩ := loop
  rw [rngL_length] at c3
  obtain ⟨τ7, k7, f7⟩ := end_ok ns (.int i) s6 hm c2 (fl := fl) c4 (by omega) τ6 c5
  refine ⟨τ7, s_seq k1 (s_seq k2 (s_seq k3 (s_seq (s_for k4 k6) k7))), f7.le ?_⟩
  exact le_eq (le_any (le_any (le_any (le_any (le_any (le_any (le_any (le_any (le_any (le_any (le_any (le_any (le_any (le_any (le_any le_nil)))))))))))))))
theorem law_true (ns : List Int) (hl : ns.length ≤ 63) : m_law [.scr ns] = some (.bl true) := by
  have key : ∃ τ', b_law (P0 ns) = some (.ret (.bl true), τ') := by
    unfold b_law
    have hI : XEs (P0 ns) (rng1I (consM (c2 addV (cN min2V (consM (cN lenV (consM (rdO 0) nilM)) (consM (cC (.int 8)) nilM))) (cC (.int 1))) nilM)) (rngL 0 ((if (8 : Int) < (ns.length : Int) then (8 : Int) else (ns.length : Int)) + 1)) :=
      xi_rng1 (xs_cons (x_c2 (x_cN (xs_cons (x_cN (xs_cons (x_rd rfl) xs_nil) rfl) (xs_cons x_c xs_nil)) (min_i _ _)) x_c (add_i _ _)) xs_nil) (by split <;> exact inR_of (by omega) (by omega))
    obtain ⟨τ1, k1, f1⟩ := hI (P0 ns) (Fit.self _)
    obtain ⟨τ2, k2, f2⟩ := forL_inv (T := nameT 1) (B := _) (Fit (P0 ns)) (rngL 0 ((if (8 : Int) < (ns.length : Int) then (8 : Int) else (ns.length : Int)) + 1)) τ1 f1 fun x hx τ hf => by
      obtain ⟨i, rfl, h0⟩ : ∃ i : Int, x = .int i ∧ 0 ≤ i := by
        unfold rngL at hx
        obtain ⟨j, _, rfl⟩ := List.mem_map.mp hx
        exact ⟨_, rfl, by omega⟩
      exact ⟨_, rfl, body_ok ns h0 _ (hf.set 1 (.int i))⟩
    exact ⟨τ2, s_seq (s_for k1 k2) (s_ret s_cC)⟩
  obtain ⟨τ', e⟩ := key
  exact s_fn (m := 15) (xs := [.scr ns]) e
end LW
end

section
set_option maxHeartbeats 8000000
namespace LW
open PySem PySem.Spec PyProof.Rows L2 MV
theorem all_mk {P : Program} {w : World} {fa : Addr} {K : PySem.W.Frag} {h : Heap} {mg : Str → Option Value} {f0 f1 f2 f3 f4 f5 f6 f7 f8 f9 f10 f11 f12 f13 f14 f15 f16 f17 f18 f19 f20 f21 f22 f23 f24 f25 f26 f27 f28 f29 f30 f31 f32 f33 f34 f35 f36 f37 : Addr} (X : K.In h) (G : h.Ns mainGlobals mg) {od0 an0 od1 an1 od2 an2 od3 an3 od4 an4 od5 an5 od6 an6 od7 an7 od8 an8 od9 an9 od10 an10 od11 an11 od12 an12 od13 an13 od14 an14 od15 an15 od16 an16 od17 an17 od18 an18 od19 an19 od20 an20 od21 an21 od22 an22 od23 an23 od24 an24 od25 an25 od26 an26 od27 an27 od28 an28 od29 an29 od30 an30 od31 an31 od32 an32 od33 an33 od34 an34 od35 an35 od36 an36 od37 an37 : Option Addr} {sl0 sl1 sl2 sl3 sl4 sl5 sl6 sl7 sl8 sl9 sl10 sl11 sl12 sl13 sl14 sl15 sl16 sl17 sl18 sl19 sl20 sl21 sl22 sl23 sl24 sl25 sl26 sl27 sl28 sl29 sl30 sl31 sl32 sl33 sl34 sl35 sl36 sl37 : Array (Option Value)} {oc0 kV0 dc0 pm0 cd0 ct0 oc1 kV1 dc1 pm1 cd1 ct1 oc2 kV2 dc2 pm2 cd2 ct2 oc3 kV3 dc3 pm3 cd3 ct3 oc4 kV4 dc4 pm4 cd4 ct4 oc5 kV5 dc5 pm5 cd5 ct5 oc6 kV6 dc6 pm6 cd6 ct6 oc7 kV7 dc7 pm7 cd7 ct7 oc8 kV8 dc8 pm8 cd8 ct8 oc9 kV9 dc9 pm9 cd9 ct9 oc10 kV10 dc10 pm10 cd10 ct10 oc11 kV11 dc11 pm11 cd11 ct11 oc12 kV12 dc12 pm12 cd12 ct12 oc13 kV13 dc13 pm13 cd13 ct13 oc14 kV14 dc14 pm14 cd14 ct14 oc15 kV15 dc15 pm15 cd15 ct15 oc16 kV16 dc16 pm16 cd16 ct16 oc17 kV17 dc17 pm17 cd17 ct17 oc18 kV18 dc18 pm18 cd18 ct18 oc19 kV19 dc19 pm19 cd19 ct19 oc20 kV20 dc20 pm20 cd20 ct20 oc21 kV21 dc21 pm21 cd21 ct21 oc22 kV22 dc22 pm22 cd22 ct22 oc23 kV23 dc23 pm23 cd23 ct23 oc24 kV24 dc24 pm24 cd24 ct24 oc25 kV25 dc25 pm25 cd25 ct25 oc26 kV26 dc26 pm26 cd26 ct26 oc27 kV27 dc27 pm27 cd27 ct27 oc28 kV28 dc28 pm28 cd28 ct28 oc29 kV29 dc29 pm29 cd29 ct29 oc30 kV30 dc30 pm30 cd30 ct30 oc31 kV31 dc31 pm31 cd31 ct31 oc32 kV32 dc32 pm32 cd32 ct32 oc33 kV33 dc33 pm33 cd33 ct33 oc34 kV34 dc34 pm34 cd34 ct34 oc35 kV35 dc35 pm35 cd35 ct35 oc36 kV36 dc36 pm36 cd36 ct36 oc37 kV37 dc37 pm37 cd37 ct37 : Value} {t_SIGNS0 t_SIGNS1 t_SIGNS2 t_FAR t_MOST_BEATS t_NOUGHT0 t_NOUGHT1 : Tok} {A_SIGNS : Addr} {o_SIGNS : Option Addr} {n_SIGNS : Nat} {s_SIGNS : Array (Option Value)} {A_NOUGHT : Addr} {o_NOUGHT : Option Addr} {n_NOUGHT : Nat} {s_NOUGHT : Array (Option Value)}
    (a0 : PySem.W.nsIn K mainGlobals "_law_spring" = some (some (.ref f0))) (l0 : K.lookup f0 = some ⟨oc0, od0, .func (PySem.W.fnOf "_law_spring" "_law_spring" (defArgs s__law_spring) (defBody s__law_spring) (defScope s__law_spring) .none kV0 dc0 pm0 an0 cd0 ct0), sl0⟩) (c0 : PySem.W.codeIn K cd0 "_law_spring" = true) (k0 : PySem.W.keepIn K (.ref f0) = true)
    (a1 : PySem.W.nsIn K mainGlobals "_law_low" = some (some (.ref f1))) (l1 : K.lookup f1 = some ⟨oc1, od1, .func (PySem.W.fnOf "_law_low" "_law_low" (defArgs s__law_low) (defBody s__law_low) (defScope s__law_low) .none kV1 dc1 pm1 an1 cd1 ct1), sl1⟩) (c1 : PySem.W.codeIn K cd1 "_law_low" = true) (k1 : PySem.W.keepIn K (.ref f1) = true)
    (a2 : PySem.W.nsIn K mainGlobals "_law_plus" = some (some (.ref f2))) (l2 : K.lookup f2 = some ⟨oc2, od2, .func (PySem.W.fnOf "_law_plus" "_law_plus" (defArgs s__law_plus) (defBody s__law_plus) (defScope s__law_plus) .none kV2 dc2 pm2 an2 cd2 ct2), sl2⟩) (c2 : PySem.W.codeIn K cd2 "_law_plus" = true) (k2 : PySem.W.keepIn K (.ref f2) = true)
    (a3 : PySem.W.nsIn K mainGlobals "_law_kept" = some (some (.ref f3))) (l3 : K.lookup f3 = some ⟨oc3, od3, .func (PySem.W.fnOf "_law_kept" "_law_kept" (defArgs s__law_kept) (defBody s__law_kept) (defScope s__law_kept) .none kV3 dc3 pm3 an3 cd3 ct3), sl3⟩) (c3 : PySem.W.codeIn K cd3 "_law_kept" = true) (k3 : PySem.W.keepIn K (.ref f3) = true)
    (a4 : PySem.W.nsIn K mainGlobals "_law_behind" = some (some (.ref f4))) (l4 : K.lookup f4 = some ⟨oc4, od4, .func (PySem.W.fnOf "_law_behind" "_law_behind" (defArgs s__law_behind) (defBody s__law_behind) (defScope s__law_behind) .none kV4 dc4 pm4 an4 cd4 ct4), sl4⟩) (c4 : PySem.W.codeIn K cd4 "_law_behind" = true) (k4 : PySem.W.keepIn K (.ref f4) = true)
    (a5 : PySem.W.nsIn K mainGlobals "_law_run" = some (some (.ref f5))) (l5 : K.lookup f5 = some ⟨oc5, od5, .func (PySem.W.fnOf "_law_run" "_law_run" (defArgs s__law_run) (defBody s__law_run) (defScope s__law_run) .none kV5 dc5 pm5 an5 cd5 ct5), sl5⟩) (c5 : PySem.W.codeIn K cd5 "_law_run" = true) (k5 : PySem.W.keepIn K (.ref f5) = true)
    (a6 : PySem.W.nsIn K mainGlobals "_law_pick" = some (some (.ref f6))) (l6 : K.lookup f6 = some ⟨oc6, od6, .func (PySem.W.fnOf "_law_pick" "_law_pick" (defArgs s__law_pick) (defBody s__law_pick) (defScope s__law_pick) .none kV6 dc6 pm6 an6 cd6 ct6), sl6⟩) (c6 : PySem.W.codeIn K cd6 "_law_pick" = true) (k6 : PySem.W.keepIn K (.ref f6) = true)
    (a7 : PySem.W.nsIn K mainGlobals "_law_bound" = some (some (.ref f7))) (l7 : K.lookup f7 = some ⟨oc7, od7, .func (PySem.W.fnOf "_law_bound" "_law_bound" (defArgs s__law_bound) (defBody s__law_bound) (defScope s__law_bound) .none kV7 dc7 pm7 an7 cd7 ct7), sl7⟩) (c7 : PySem.W.codeIn K cd7 "_law_bound" = true) (k7 : PySem.W.keepIn K (.ref f7) = true)
    (a8 : PySem.W.nsIn K mainGlobals "_law_edge" = some (some (.ref f8))) (l8 : K.lookup f8 = some ⟨oc8, od8, .func (PySem.W.fnOf "_law_edge" "_law_edge" (defArgs s__law_edge) (defBody s__law_edge) (defScope s__law_edge) .none kV8 dc8 pm8 an8 cd8 ct8), sl8⟩) (c8 : PySem.W.codeIn K cd8 "_law_edge" = true) (k8 : PySem.W.keepIn K (.ref f8) = true)
    (a9 : PySem.W.nsIn K mainGlobals "_law_machine" = some (some (.ref f9))) (l9 : K.lookup f9 = some ⟨oc9, od9, .func (PySem.W.fnOf "_law_machine" "_law_machine" (defArgs s__law_machine) (defBody s__law_machine) (defScope s__law_machine) .none kV9 dc9 pm9 an9 cd9 ct9), sl9⟩) (c9 : PySem.W.codeIn K cd9 "_law_machine" = true) (k9 : PySem.W.keepIn K (.ref f9) = true)
    (a10 : PySem.W.nsIn K mainGlobals "_law_pause" = some (some (.ref f10))) (l10 : K.lookup f10 = some ⟨oc10, od10, .func (PySem.W.fnOf "_law_pause" "_law_pause" (defArgs s__law_pause) (defBody s__law_pause) (defScope s__law_pause) .none kV10 dc10 pm10 an10 cd10 ct10), sl10⟩) (c10 : PySem.W.codeIn K cd10 "_law_pause" = true) (k10 : PySem.W.keepIn K (.ref f10) = true)
    (a11 : PySem.W.nsIn K mainGlobals "_law_kind" = some (some (.ref f11))) (l11 : K.lookup f11 = some ⟨oc11, od11, .func (PySem.W.fnOf "_law_kind" "_law_kind" (defArgs s__law_kind) (defBody s__law_kind) (defScope s__law_kind) .none kV11 dc11 pm11 an11 cd11 ct11), sl11⟩) (c11 : PySem.W.codeIn K cd11 "_law_kind" = true) (k11 : PySem.W.keepIn K (.ref f11) = true)
    (a12 : PySem.W.nsIn K mainGlobals "_law_twins" = some (some (.ref f12))) (l12 : K.lookup f12 = some ⟨oc12, od12, .func (PySem.W.fnOf "_law_twins" "_law_twins" (defArgs s__law_twins) (defBody s__law_twins) (defScope s__law_twins) .none kV12 dc12 pm12 an12 cd12 ct12), sl12⟩) (c12 : PySem.W.codeIn K cd12 "_law_twins" = true) (k12 : PySem.W.keepIn K (.ref f12) = true)
    (a13 : PySem.W.nsIn K mainGlobals "is_row_of" = some (some (.ref f13))) (l13 : K.lookup f13 = some ⟨oc13, od13, .func (PySem.W.fnOf "is_row_of" "is_row_of" (defArgs s_is_row_of) (defBody s_is_row_of) (defScope s_is_row_of) .none kV13 dc13 pm13 an13 cd13 ct13), sl13⟩) (c13 : PySem.W.codeIn K cd13 "is_row_of" = true) (k13 : PySem.W.keepIn K (.ref f13) = true)
    (a14 : PySem.W.nsIn K mainGlobals "is_within" = some (some (.ref f14))) (l14 : K.lookup f14 = some ⟨oc14, od14, .func (PySem.W.fnOf "is_within" "is_within" (defArgs s_is_within) (defBody s_is_within) (defScope s_is_within) .none kV14 dc14 pm14 an14 cd14 ct14), sl14⟩) (c14 : PySem.W.codeIn K cd14 "is_within" = true) (k14 : PySem.W.keepIn K (.ref f14) = true)
    (a15 : PySem.W.nsIn K mainGlobals "is_sign" = some (some (.ref f15))) (l15 : K.lookup f15 = some ⟨oc15, od15, .func (PySem.W.fnOf "is_sign" "is_sign" (defArgs s_is_sign) (defBody s_is_sign) (defScope s_is_sign) .none kV15 dc15 pm15 an15 cd15 ct15), sl15⟩) (c15 : PySem.W.codeIn K cd15 "is_sign" = true) (k15 : PySem.W.keepIn K (.ref f15) = true)
    (a16 : PySem.W.nsIn K mainGlobals "is_bound" = some (some (.ref f16))) (l16 : K.lookup f16 = some ⟨oc16, od16, .func (PySem.W.fnOf "is_bound" "is_bound" (defArgs s_is_bound) (defBody s_is_bound) (defScope s_is_bound) .none kV16 dc16 pm16 an16 cd16 ct16), sl16⟩) (c16 : PySem.W.codeIn K cd16 "is_bound" = true) (k16 : PySem.W.keepIn K (.ref f16) = true)
    (a17 : PySem.W.nsIn K mainGlobals "is_edge" = some (some (.ref f17))) (l17 : K.lookup f17 = some ⟨oc17, od17, .func (PySem.W.fnOf "is_edge" "is_edge" (defArgs s_is_edge) (defBody s_is_edge) (defScope s_is_edge) .none kV17 dc17 pm17 an17 cd17 ct17), sl17⟩) (c17 : PySem.W.codeIn K cd17 "is_edge" = true) (k17 : PySem.W.keepIn K (.ref f17) = true)
    (a18 : PySem.W.nsIn K mainGlobals "is_machine" = some (some (.ref f18))) (l18 : K.lookup f18 = some ⟨oc18, od18, .func (PySem.W.fnOf "is_machine" "is_machine" (defArgs s_is_machine) (defBody s_is_machine) (defScope s_is_machine) .none kV18 dc18 pm18 an18 cd18 ct18), sl18⟩) (c18 : PySem.W.codeIn K cd18 "is_machine" = true) (k18 : PySem.W.keepIn K (.ref f18) = true)
    (a19 : PySem.W.nsIn K mainGlobals "look_at_machine" = some (some (.ref f19))) (l19 : K.lookup f19 = some ⟨oc19, od19, .func (PySem.W.fnOf "look_at_machine" "look_at_machine" (defArgs s_look_at_machine) (defBody s_look_at_machine) (defScope s_look_at_machine) .none kV19 dc19 pm19 an19 cd19 ct19), sl19⟩) (c19 : PySem.W.codeIn K cd19 "look_at_machine" = true) (k19 : PySem.W.keepIn K (.ref f19) = true)
    (a20 : PySem.W.nsIn K mainGlobals "common" = some (some (.ref f20))) (l20 : K.lookup f20 = some ⟨oc20, od20, .func (PySem.W.fnOf "common" "common" (defArgs s_common) (defBody s_common) (defScope s_common) .none kV20 dc20 pm20 an20 cd20 ct20), sl20⟩) (c20 : PySem.W.codeIn K cd20 "common" = true) (k20 : PySem.W.keepIn K (.ref f20) = true)
    (a21 : PySem.W.nsIn K mainGlobals "is_fraction" = some (some (.ref f21))) (l21 : K.lookup f21 = some ⟨oc21, od21, .func (PySem.W.fnOf "is_fraction" "is_fraction" (defArgs s_is_fraction) (defBody s_is_fraction) (defScope s_is_fraction) .none kV21 dc21 pm21 an21 cd21 ct21), sl21⟩) (c21 : PySem.W.codeIn K cd21 "is_fraction" = true) (k21 : PySem.W.keepIn K (.ref f21) = true)
    (a22 : PySem.W.nsIn K mainGlobals "is_beat" = some (some (.ref f22))) (l22 : K.lookup f22 = some ⟨oc22, od22, .func (PySem.W.fnOf "is_beat" "is_beat" (defArgs s_is_beat) (defBody s_is_beat) (defScope s_is_beat) .none kV22 dc22 pm22 an22 cd22 ct22), sl22⟩) (c22 : PySem.W.codeIn K cd22 "is_beat" = true) (k22 : PySem.W.keepIn K (.ref f22) = true)
    (a23 : PySem.W.nsIn K mainGlobals "is_row" = some (some (.ref f23))) (l23 : K.lookup f23 = some ⟨oc23, od23, .func (PySem.W.fnOf "is_row" "is_row" (defArgs s_is_row) (defBody s_is_row) (defScope s_is_row) .none kV23 dc23 pm23 an23 cd23 ct23), sl23⟩) (c23 : PySem.W.codeIn K cd23 "is_row" = true) (k23 : PySem.W.keepIn K (.ref f23) = true)
    (a24 : PySem.W.nsIn K mainGlobals "look_at_row" = some (some (.ref f24))) (l24 : K.lookup f24 = some ⟨oc24, od24, .func (PySem.W.fnOf "look_at_row" "look_at_row" (defArgs s_look_at_row) (defBody s_look_at_row) (defScope s_look_at_row) .none kV24 dc24 pm24 an24 cd24 ct24), sl24⟩) (c24 : PySem.W.codeIn K cd24 "look_at_row" = true) (k24 : PySem.W.keepIn K (.ref f24) = true)
    (a25 : PySem.W.nsIn K mainGlobals "lowest" = some (some (.ref f25))) (l25 : K.lookup f25 = some ⟨oc25, od25, .func (PySem.W.fnOf "lowest" "lowest" (defArgs s_lowest) (defBody s_lowest) (defScope s_lowest) .none kV25 dc25 pm25 an25 cd25 ct25), sl25⟩) (c25 : PySem.W.codeIn K cd25 "lowest" = true) (k25 : PySem.W.keepIn K (.ref f25) = true)
    (a26 : PySem.W.nsIn K mainGlobals "plus" = some (some (.ref f26))) (l26 : K.lookup f26 = some ⟨oc26, od26, .func (PySem.W.fnOf "plus" "plus" (defArgs s_plus) (defBody s_plus) (defScope s_plus) .none kV26 dc26 pm26 an26 cd26 ct26), sl26⟩) (c26 : PySem.W.codeIn K cd26 "plus" = true) (k26 : PySem.W.keepIn K (.ref f26) = true)
    (a27 : PySem.W.nsIn K mainGlobals "keeps" = some (some (.ref f27))) (l27 : K.lookup f27 = some ⟨oc27, od27, .func (PySem.W.fnOf "keeps" "keeps" (defArgs s_keeps) (defBody s_keeps) (defScope s_keeps) .none kV27 dc27 pm27 an27 cd27 ct27), sl27⟩) (c27 : PySem.W.codeIn K cd27 "keeps" = true) (k27 : PySem.W.keepIn K (.ref f27) = true)
    (a28 : PySem.W.nsIn K mainGlobals "behind" = some (some (.ref f28))) (l28 : K.lookup f28 = some ⟨oc28, od28, .func (PySem.W.fnOf "behind" "behind" (defArgs s_behind) (defBody s_behind) (defScope s_behind) .none kV28 dc28 pm28 an28 cd28 ct28), sl28⟩) (c28 : PySem.W.codeIn K cd28 "behind" = true) (k28 : PySem.W.keepIn K (.ref f28) = true)
    (a29 : PySem.W.nsIn K mainGlobals "stands_by" = some (some (.ref f29))) (l29 : K.lookup f29 = some ⟨oc29, od29, .func (PySem.W.fnOf "stands_by" "stands_by" (defArgs s_stands_by) (defBody s_stands_by) (defScope s_stands_by) .none kV29 dc29 pm29 an29 cd29 ct29), sl29⟩) (c29 : PySem.W.codeIn K cd29 "stands_by" = true) (k29 : PySem.W.keepIn K (.ref f29) = true)
    (a30 : PySem.W.nsIn K mainGlobals "begin_of" = some (some (.ref f30))) (l30 : K.lookup f30 = some ⟨oc30, od30, .func (PySem.W.fnOf "begin_of" "begin_of" (defArgs s_begin_of) (defBody s_begin_of) (defScope s_begin_of) .none kV30 dc30 pm30 an30 cd30 ct30), sl30⟩) (c30 : PySem.W.codeIn K cd30 "begin_of" = true) (k30 : PySem.W.keepIn K (.ref f30) = true)
    (a31 : PySem.W.nsIn K mainGlobals "stands_behind" = some (some (.ref f31))) (l31 : K.lookup f31 = some ⟨oc31, od31, .func (PySem.W.fnOf "stands_behind" "stands_behind" (defArgs s_stands_behind) (defBody s_stands_behind) (defScope s_stands_behind) .none kV31 dc31 pm31 an31 cd31 ct31), sl31⟩) (c31 : PySem.W.codeIn K cd31 "stands_behind" = true) (k31 : PySem.W.keepIn K (.ref f31) = true)
    (a32 : PySem.W.nsIn K mainGlobals "moment_of" = some (some (.ref f32))) (l32 : K.lookup f32 = some ⟨oc32, od32, .func (PySem.W.fnOf "moment_of" "moment_of" (defArgs s_moment_of) (defBody s_moment_of) (defScope s_moment_of) .none kV32 dc32 pm32 an32 cd32 ct32), sl32⟩) (c32 : PySem.W.codeIn K cd32 "moment_of" = true) (k32 : PySem.W.keepIn K (.ref f32) = true)
    (a33 : PySem.W.nsIn K mainGlobals "moment" = some (some (.ref f33))) (l33 : K.lookup f33 = some ⟨oc33, od33, .func (PySem.W.fnOf "moment" "moment" (defArgs s_moment) (defBody s_moment) (defScope s_moment) .none kV33 dc33 pm33 an33 cd33 ct33), sl33⟩) (c33 : PySem.W.codeIn K cd33 "moment" = true) (k33 : PySem.W.keepIn K (.ref f33) = true)
    (a34 : PySem.W.nsIn K mainGlobals "_law_total" = some (some (.ref f34))) (l34 : K.lookup f34 = some ⟨oc34, od34, .func (PySem.W.fnOf "_law_total" "_law_total" (defArgs s__law_total) (defBody s__law_total) (defScope s__law_total) .none kV34 dc34 pm34 an34 cd34 ct34), sl34⟩) (c34 : PySem.W.codeIn K cd34 "_law_total" = true) (k34 : PySem.W.keepIn K (.ref f34) = true)
    (a35 : PySem.W.nsIn K mainGlobals "look_at_stand" = some (some (.ref f35))) (l35 : K.lookup f35 = some ⟨oc35, od35, .func (PySem.W.fnOf "look_at_stand" "look_at_stand" (defArgs s_look_at_stand) (defBody s_look_at_stand) (defScope s_look_at_stand) .none kV35 dc35 pm35 an35 cd35 ct35), sl35⟩) (c35 : PySem.W.codeIn K cd35 "look_at_stand" = true) (k35 : PySem.W.keepIn K (.ref f35) = true)
    (a36 : PySem.W.nsIn K mainGlobals "after" = some (some (.ref f36))) (l36 : K.lookup f36 = some ⟨oc36, od36, .func (PySem.W.fnOf "after" "after" (defArgs s_after) (defBody s_after) (defScope s_after) .none kV36 dc36 pm36 an36 cd36 ct36), sl36⟩) (c36 : PySem.W.codeIn K cd36 "after" = true) (k36 : PySem.W.keepIn K (.ref f36) = true)
    (a37 : PySem.W.nsIn K mainGlobals "law" = some (some (.ref f37))) (l37 : K.lookup f37 = some ⟨oc37, od37, .func (PySem.W.fnOf "law" "law" (defArgs s_law) (defBody s_law) (defScope s_law) .none kV37 dc37 pm37 an37 cd37 ct37), sl37⟩) (c37 : PySem.W.codeIn K cd37 "law" = true) (k37 : PySem.W.keepIn K (.ref f37) = true)
    (z_len : PySem.W.nsIn K mainGlobals "len" = some none)
    (z_abs : PySem.W.nsIn K mainGlobals "abs" = some none)
    (z_int : PySem.W.nsIn K mainGlobals "int" = some none)
    (z_range : PySem.W.nsIn K mainGlobals "range" = some none)
    (z_tuple : PySem.W.nsIn K mainGlobals "tuple" = some none)
    (z_sorted : PySem.W.nsIn K mainGlobals "sorted" = some none)
    (z_set : PySem.W.nsIn K mainGlobals "set" = some none)
    (z_max : PySem.W.nsIn K mainGlobals "max" = some none)
    (z_isinstance : PySem.W.nsIn K mainGlobals "isinstance" = some none)
    (z_bool : PySem.W.nsIn K mainGlobals "bool" = some none)
    (z_list : PySem.W.nsIn K mainGlobals "list" = some none)
    (z_str : PySem.W.nsIn K mainGlobals "str" = some none)
    (z_zip : PySem.W.nsIn K mainGlobals "zip" = some none)
    (z_all : PySem.W.nsIn K mainGlobals "all" = some none)
    (z_enumerate : PySem.W.nsIn K mainGlobals "enumerate" = some none)
    (z_min : PySem.W.nsIn K mainGlobals "min" = some none)
    (g_SIGNS : PySem.W.nsIn K mainGlobals "SIGNS" = some (some (.ref A_SIGNS))) (h_SIGNS : K.lookup A_SIGNS = some ⟨.type "tuple", o_SIGNS, .seq #[.str "a" t_SIGNS0, .str "b" t_SIGNS1, .str "c" t_SIGNS2] n_SIGNS, s_SIGNS⟩)
    (g_FAR : PySem.W.nsIn K mainGlobals "FAR" = some (some (.int 5 t_FAR)))
    (g_MOST_BEATS : PySem.W.nsIn K mainGlobals "MOST_BEATS" = some (some (.int 30 t_MOST_BEATS)))
    (g_NOUGHT : PySem.W.nsIn K mainGlobals "NOUGHT" = some (some (.ref A_NOUGHT))) (h_NOUGHT : K.lookup A_NOUGHT = some ⟨.type "tuple", o_NOUGHT, .seq #[.int 0 t_NOUGHT0, .int 1 t_NOUGHT1] n_NOUGHT, s_NOUGHT⟩)
    (hfa : mg "law" = some (.ref fa)) : ∃ fd : FuncData, (∀ (s : Shared) (v : Value), BindsTo s fd ⟨[v], []⟩ [("script", v)]) ∧ ∀ base : Heap, K.In base → base.Ns mainGlobals mg → FnOk P w K mg base CX0 11 fa fd ["script"] (spM P w K 1 m_law) := by
  have e := hfa.symm.trans (PySem.W.mg_of X G a37)
  cases e
  have F0 := fun_mk (st := s__law_spring) l0 c0 k0
  have F1 := fun_mk (st := s__law_low) l1 c1 k1
  have F2 := fun_mk (st := s__law_plus) l2 c2 k2
  have F3 := fun_mk (st := s__law_kept) l3 c3 k3
  have F4 := fun_mk (st := s__law_behind) l4 c4 k4
  have F5 := fun_mk (st := s__law_run) l5 c5 k5
  have F6 := fun_mk (st := s__law_pick) l6 c6 k6
  have F7 := fun_mk (st := s__law_bound) l7 c7 k7
  have F8 := fun_mk (st := s__law_edge) l8 c8 k8
  have F9 := fun_mk (st := s__law_machine) l9 c9 k9
  have F10 := fun_mk (st := s__law_pause) l10 c10 k10
  have F11 := fun_mk (st := s__law_kind) l11 c11 k11
  have F12 := fun_mk (st := s__law_twins) l12 c12 k12
  have F13 := fun_mk (st := s_is_row_of) l13 c13 k13
  have F14 := fun_mk (st := s_is_within) l14 c14 k14
  have F15 := fun_mk (st := s_is_sign) l15 c15 k15
  have F16 := fun_mk (st := s_is_bound) l16 c16 k16
  have F17 := fun_mk (st := s_is_edge) l17 c17 k17
  have F18 := fun_mk (st := s_is_machine) l18 c18 k18
  have F19 := fun_mk (st := s_look_at_machine) l19 c19 k19
  have F20 := fun_mk (st := s_common) l20 c20 k20
  have F21 := fun_mk (st := s_is_fraction) l21 c21 k21
  have F22 := fun_mk (st := s_is_beat) l22 c22 k22
  have F23 := fun_mk (st := s_is_row) l23 c23 k23
  have F24 := fun_mk (st := s_look_at_row) l24 c24 k24
  have F25 := fun_mk (st := s_lowest) l25 c25 k25
  have F26 := fun_mk (st := s_plus) l26 c26 k26
  have F27 := fun_mk (st := s_keeps) l27 c27 k27
  have F28 := fun_mk (st := s_behind) l28 c28 k28
  have F29 := fun_mk (st := s_stands_by) l29 c29 k29
  have F30 := fun_mk (st := s_begin_of) l30 c30 k30
  have F31 := fun_mk (st := s_stands_behind) l31 c31 k31
  have F32 := fun_mk (st := s_moment_of) l32 c32 k32
  have F33 := fun_mk (st := s_moment) l33 c33 k33
  have F34 := fun_mk (st := s__law_total) l34 c34 k34
  have F35 := fun_mk (st := s_look_at_stand) l35 c35 k35
  have F36 := fun_mk (st := s_after) l36 c36 k36
  have F37 := fun_mk (st := s_law) l37 c37 k37
  have b0 := F0.binds (ps := ["script", "at"]) fun _ _ _ _ _ _ us hl => match us, hl with | [_, _], _ => rfl
  have b1 := F1.binds (ps := ["top", "below"]) fun _ _ _ _ _ _ us hl => match us, hl with | [_, _], _ => rfl
  have b2 := F2.binds (ps := ["one", "other"]) fun _ _ _ _ _ _ us hl => match us, hl with | [_, _], _ => rfl
  have b3 := F3.binds (ps := ["value", "bound"]) fun _ _ _ _ _ _ us hl => match us, hl with | [_, _], _ => rfl
  have b4 := F4.binds (ps := ["machine", "stands", "beat"]) fun _ _ _ _ _ _ us hl => match us, hl with | [_, _, _], _ => rfl
  have b5 := F5.binds (ps := ["machine", "row"]) fun _ _ _ _ _ _ us hl => match us, hl with | [_, _], _ => rfl
  have b6 := F6.binds (ps := ["spring", "many"]) fun _ _ _ _ _ _ us hl => match us, hl with | [_, _], _ => rfl
  have b7 := F7.binds (ps := ["spring"]) fun _ _ _ _ _ _ us hl => match us, hl with | [_], _ => rfl
  have b8 := F8.binds (ps := ["spring", "clocks"]) fun _ _ _ _ _ _ us hl => match us, hl with | [_, _], _ => rfl
  have b9 := F9.binds (ps := ["spring", "most"]) fun _ _ _ _ _ _ us hl => match us, hl with | [_, _], _ => rfl
  have b10 := F10.binds (ps := ["spring", "machine", "stands"]) fun _ _ _ _ _ _ us hl => match us, hl with | [_, _, _], _ => rfl
  have b11 := F11.binds (ps := ["value"]) fun _ _ _ _ _ _ us hl => match us, hl with | [_], _ => rfl
  have b12 := F12.binds (ps := ["one", "other"]) fun _ _ _ _ _ _ us hl => match us, hl with | [_, _], _ => rfl
  have b13 := F13.binds (ps := ["value", "many"]) fun _ _ _ _ _ _ us hl => match us, hl with | [_, _], _ => rfl
  have b14 := F14.binds (ps := ["value", "low", "high"]) fun _ _ _ _ _ _ us hl => match us, hl with | [_, _, _], _ => rfl
  have b15 := F15.binds (ps := ["value"]) fun _ _ _ _ _ _ us hl => match us, hl with | [_], _ => rfl
  have b16 := F16.binds (ps := ["value"]) fun _ _ _ _ _ _ us hl => match us, hl with | [_], _ => rfl
  have b17 := F17.binds (ps := ["clocks", "value"]) fun _ _ _ _ _ _ us hl => match us, hl with | [_, _], _ => rfl
  have b18 := F18.binds (ps := ["value"]) fun _ _ _ _ _ _ us hl => match us, hl with | [_], _ => rfl
  have b19 := F19.binds (ps := ["machine"]) fun _ _ _ _ _ _ us hl => match us, hl with | [_], _ => rfl
  have b20 := F20.binds (ps := ["one", "other"]) fun _ _ _ _ _ _ us hl => match us, hl with | [_, _], _ => rfl
  have b21 := F21.binds (ps := ["value"]) fun _ _ _ _ _ _ us hl => match us, hl with | [_], _ => rfl
  have b22 := F22.binds (ps := ["value"]) fun _ _ _ _ _ _ us hl => match us, hl with | [_], _ => rfl
  have b23 := F23.binds (ps := ["value"]) fun _ _ _ _ _ _ us hl => match us, hl with | [_], _ => rfl
  have b24 := F24.binds (ps := ["row"]) fun _ _ _ _ _ _ us hl => match us, hl with | [_], _ => rfl
  have b25 := F25.binds (ps := ["top", "below"]) fun _ _ _ _ _ _ us hl => match us, hl with | [_, _], _ => rfl
  have b26 := F26.binds (ps := ["one", "other"]) fun _ _ _ _ _ _ us hl => match us, hl with | [_, _], _ => rfl
  have b27 := F27.binds (ps := ["value", "bound"]) fun _ _ _ _ _ _ us hl => match us, hl with | [_, _], _ => rfl
  have b28 := F28.binds (ps := ["machine", "stands", "beat"]) fun _ _ _ _ _ _ us hl => match us, hl with | [_, _, _], _ => rfl
  have b29 := F29.binds (ps := ["machine", "stands", "row"]) fun _ _ _ _ _ _ us hl => match us, hl with | [_, _, _], _ => rfl
  have b30 := F30.binds (ps := ["machine"]) fun _ _ _ _ _ _ us hl => match us, hl with | [_], _ => rfl
  have b31 := F31.binds (ps := ["machine", "row"]) fun _ _ _ _ _ _ us hl => match us, hl with | [_, _], _ => rfl
  have b32 := F32.binds (ps := ["row"]) fun _ _ _ _ _ _ us hl => match us, hl with | [_], _ => rfl
  have b33 := F33.binds (ps := ["row"]) fun _ _ _ _ _ _ us hl => match us, hl with | [_], _ => rfl
  have b34 := F34.binds (ps := ["row"]) fun _ _ _ _ _ _ us hl => match us, hl with | [_], _ => rfl
  have b35 := F35.binds (ps := ["machine", "stand"]) fun _ _ _ _ _ _ us hl => match us, hl with | [_, _], _ => rfl
  have b36 := F36.binds (ps := ["machine", "stand", "beat"]) fun _ _ _ _ _ _ us hl => match us, hl with | [_, _, _], _ => rfl
  have b37 := F37.binds (ps := ["script"]) fun _ _ _ _ _ _ us hl => match us, hl with | [_], _ => rfl
  exact ⟨_, fun s v => .of_eq rfl, fun base _ _ => ok_law (P := P) (w := w) (base := base) (⟨_, _, F0, b0, PySem.W.mg_of X G a0, _, _, F1, b1, PySem.W.mg_of X G a1, _, _, F2, b2, PySem.W.mg_of X G a2, _, _, F3, b3, PySem.W.mg_of X G a3, _, _, F4, b4, PySem.W.mg_of X G a4, _, _, F5, b5, PySem.W.mg_of X G a5, _, _, F6, b6, PySem.W.mg_of X G a6, _, _, F7, b7, PySem.W.mg_of X G a7, _, _, F8, b8, PySem.W.mg_of X G a8, _, _, F9, b9, PySem.W.mg_of X G a9, _, _, F10, b10, PySem.W.mg_of X G a10, _, _, F11, b11, PySem.W.mg_of X G a11, _, _, F12, b12, PySem.W.mg_of X G a12, _, _, F13, b13, PySem.W.mg_of X G a13, _, _, F14, b14, PySem.W.mg_of X G a14, _, _, F15, b15, PySem.W.mg_of X G a15, _, _, F16, b16, PySem.W.mg_of X G a16, _, _, F17, b17, PySem.W.mg_of X G a17, _, _, F18, b18, PySem.W.mg_of X G a18, _, _, F19, b19, PySem.W.mg_of X G a19, _, _, F20, b20, PySem.W.mg_of X G a20, _, _, F21, b21, PySem.W.mg_of X G a21, _, _, F22, b22, PySem.W.mg_of X G a22, _, _, F23, b23, PySem.W.mg_of X G a23, _, _, F24, b24, PySem.W.mg_of X G a24, _, _, F25, b25, PySem.W.mg_of X G a25, _, _, F26, b26, PySem.W.mg_of X G a26, _, _, F27, b27, PySem.W.mg_of X G a27, _, _, F28, b28, PySem.W.mg_of X G a28, _, _, F29, b29, PySem.W.mg_of X G a29, _, _, F30, b30, PySem.W.mg_of X G a30, _, _, F31, b31, PySem.W.mg_of X G a31, _, _, F32, b32, PySem.W.mg_of X G a32, _, _, F33, b33, PySem.W.mg_of X G a33, _, _, F34, b34, PySem.W.mg_of X G a34, _, _, F35, b35, PySem.W.mg_of X G a35, _, _, F36, b36, PySem.W.mg_of X G a36, _, _, F37, b37, PySem.W.mg_of X G a37, PySem.W.mg_none_of X G z_len, PySem.W.mg_none_of X G z_abs, PySem.W.mg_none_of X G z_int, PySem.W.mg_none_of X G z_range, PySem.W.mg_none_of X G z_tuple, PySem.W.mg_none_of X G z_sorted, PySem.W.mg_none_of X G z_set, PySem.W.mg_none_of X G z_max, PySem.W.mg_none_of X G z_isinstance, PySem.W.mg_none_of X G z_bool, PySem.W.mg_none_of X G z_list, PySem.W.mg_none_of X G z_str, PySem.W.mg_none_of X G z_zip, PySem.W.mg_none_of X G z_all, PySem.W.mg_none_of X G z_enumerate, PySem.W.mg_none_of X G z_min, ⟨.ref A_SIGNS, _, PySem.W.mg_of X G g_SIGNS, rfl, fun P w F H => vr_ktup (vs := [.str "a", .str "b", .str "c"]) h_SIGNS rfl rfl (show 3 ≤ sizeLine by decide +kernel) (.cons ⟨t_SIGNS0, rfl⟩ (.cons ⟨t_SIGNS1, rfl⟩ (.cons ⟨t_SIGNS2, rfl⟩ (.nil)))) (fun _ _ => .cons (.str _) (.cons (.str _) (.cons (.str _) (.nil)))) F H⟩, Glb.int (PySem.W.mg_of X G g_FAR), Glb.int (PySem.W.mg_of X G g_MOST_BEATS), ⟨.ref A_NOUGHT, _, PySem.W.mg_of X G g_NOUGHT, rfl, fun P w F H => vr_ktup (vs := [.int 0, .int 1]) h_NOUGHT rfl rfl (show 2 ≤ sizeLine by decide +kernel) (.cons ⟨t_NOUGHT0, rfl⟩ (.cons ⟨t_NOUGHT1, rfl⟩ (.nil))) (fun _ _ => .cons (.int _) (.cons (.int _) (.nil))) F H⟩⟩ : Facts K mg) 0⟩
def spLaw (P : Program) (w : World) (K : PySem.W.Frag) : Sp := spM P w K 1 m_law
theorem law_run {K : PySem.W.Frag} {P : Program} {w : World} {H : Hp} {a : Addr} {ns : List Int} {Q : VK} {E : XK} (hS : SqL K H a (ns.map V.int)) (hl : m_law [.scr ns] = some (.bl true)) (q : ∀ H', Q (.bl true) H') : spLaw P w K [.ref a] H Q E := by
  have hv : ScrAt K (fun b => H b ≠ none) H a (ns.map V.int) := by
    rcases hS with h | h
    · exact .inl ⟨by rcases h with h | ⟨_, h⟩ <;> rw [h] <;> exact Option.some_ne_none _, h⟩
    · exact .inr h
  refine ⟨fun b => H b ≠ none, [.scr ns], .bl true, fun _ z => z, .cons (L' := []) (.scr hv) .nil, rfl, hl, fun v F' H' Lr h _ => ?_⟩
  rw [h.bl_inv]
  exact q H'
end LW
open PySem PySem.W PyProof.Rows
set_option maxHeartbeats 0 in
theorem PySem.Challenge.cw_realpauses_k02_whole_beats_with_fraction_holds : PySem.Challenge.rw_realpauses_k02_whole_beats_with_fraction.Holds := by
  w_on; o_law; k_head; (case hw => w_witness2)
  k_fill
  refine L2.walk_of (l := PySem.Challenge.rw_realpauses_k02_whole_beats_with_fraction) (n := 63) (k := 11) (x := "script") (CX := fun _ => L2.CX0) (sp := fun w => LW.spLaw PySem.Challenge.rw_realpauses_k02_whole_beats_with_fraction.prog w _) rfl (by decide) rfl ⟨rfl, by decide, by decide⟩ (fun w h Y => PySem.W.kIn_of Y) ?F (fun _ _ a ns hl _ hS => LW.law_run hS (LW.law_true ns hl) fun _ => rfl) (fun _ _ _ _ _ h => h)
  case F =>
    intro w mg fa h KX G hmg
    refine' LW.all_mk KX G ?a0 ?l0 ?c0 ?k0 ?a1 ?l1 ?c1 ?k1 ?a2 ?l2 ?c2 ?k2 ?a3 ?l3 ?c3 ?k3 ?a4 ?l4 ?c4 ?k4 ?a5 ?l5 ?c5 ?k5 ?a6 ?l6 ?c6 ?k6 ?a7 ?l7 ?c7 ?k7 ?a8 ?l8 ?c8 ?k8 ?a9 ?l9 ?c9 ?k9 ?a10 ?l10 ?c10 ?k10 ?a11 ?l11 ?c11 ?k11 ?a12 ?l12 ?c12 ?k12 ?a13 ?l13 ?c13 ?k13 ?a14 ?l14 ?c14 ?k14 ?a15 ?l15 ?c15 ?k15 ?a16 ?l16 ?c16 ?k16 ?a17 ?l17 ?c17 ?k17 ?a18 ?l18 ?c18 ?k18 ?a19 ?l19 ?c19 ?k19 ?a20 ?l20 ?c20 ?k20 ?a21 ?l21 ?c21 ?k21 ?a22 ?l22 ?c22 ?k22 ?a23 ?l23 ?c23 ?k23 ?a24 ?l24 ?c24 ?k24 ?a25 ?l25 ?c25 ?k25 ?a26 ?l26 ?c26 ?k26 ?a27 ?l27 ?c27 ?k27 ?a28 ?l28 ?c28 ?k28 ?a29 ?l29 ?c29 ?k29 ?a30 ?l30 ?c30 ?k30 ?a31 ?l31 ?c31 ?k31 ?a32 ?l32 ?c32 ?k32 ?a33 ?l33 ?c33 ?k33 ?a34 ?l34 ?c34 ?k34 ?a35 ?l35 ?c35 ?k35 ?a36 ?l36 ?c36 ?k36 ?a37 ?l37 ?c37 ?k37 ?z_len ?z_abs ?z_int ?z_range ?z_tuple ?z_sorted ?z_set ?z_max ?z_isinstance ?z_bool ?z_list ?z_str ?z_zip ?z_all ?z_enumerate ?z_min ?g_SIGNS ?h_SIGNS ?g_FAR ?g_MOST_BEATS ?g_NOUGHT ?h_NOUGHT hmg
    (case a0 => k_is); (case l0 => k_is); (case c0 => k_is); (case k0 => k_is); (case a1 => k_is); (case l1 => k_is); (case c1 => k_is); (case k1 => k_is); (case a2 => k_is); (case l2 => k_is); (case c2 => k_is); (case k2 => k_is); (case a3 => k_is); (case l3 => k_is); (case c3 => k_is); (case k3 => k_is); (case a4 => k_is); (case l4 => k_is); (case c4 => k_is); (case k4 => k_is); (case a5 => k_is); (case l5 => k_is); (case c5 => k_is); (case k5 => k_is); (case a6 => k_is); (case l6 => k_is); (case c6 => k_is); (case k6 => k_is); (case a7 => k_is); (case l7 => k_is); (case c7 => k_is); (case k7 => k_is); (case a8 => k_is); (case l8 => k_is); (case c8 => k_is); (case k8 => k_is); (case a9 => k_is); (case l9 => k_is); (case c9 => k_is); (case k9 => k_is); (case a10 => k_is); (case l10 => k_is); (case c10 => k_is); (case k10 => k_is); (case a11 => k_is); (case l11 => k_is); (case c11 => k_is); (case k11 => k_is); (case a12 => k_is); (case l12 => k_is); (case c12 => k_is); (case k12 => k_is); (case a13 => k_is); (case l13 => k_is); (case c13 => k_is); (case k13 => k_is); (case a14 => k_is); (case l14 => k_is); (case c14 => k_is); (case k14 => k_is); (case a15 => k_is); (case l15 => k_is); (case c15 => k_is); (case k15 => k_is); (case a16 => k_is); (case l16 => k_is); (case c16 => k_is); (case k16 => k_is); (case a17 => k_is); (case l17 => k_is); (case c17 => k_is); (case k17 => k_is); (case a18 => k_is); (case l18 => k_is); (case c18 => k_is); (case k18 => k_is); (case a19 => k_is); (case l19 => k_is); (case c19 => k_is); (case k19 => k_is); (case a20 => k_is); (case l20 => k_is); (case c20 => k_is); (case k20 => k_is); (case a21 => k_is); (case l21 => k_is); (case c21 => k_is); (case k21 => k_is); (case a22 => k_is); (case l22 => k_is); (case c22 => k_is); (case k22 => k_is); (case a23 => k_is); (case l23 => k_is); (case c23 => k_is); (case k23 => k_is); (case a24 => k_is); (case l24 => k_is); (case c24 => k_is); (case k24 => k_is); (case a25 => k_is); (case l25 => k_is); (case c25 => k_is); (case k25 => k_is); (case a26 => k_is); (case l26 => k_is); (case c26 => k_is); (case k26 => k_is); (case a27 => k_is); (case l27 => k_is); (case c27 => k_is); (case k27 => k_is); (case a28 => k_is); (case l28 => k_is); (case c28 => k_is); (case k28 => k_is); (case a29 => k_is); (case l29 => k_is); (case c29 => k_is); (case k29 => k_is); (case a30 => k_is); (case l30 => k_is); (case c30 => k_is); (case k30 => k_is); (case a31 => k_is); (case l31 => k_is); (case c31 => k_is); (case k31 => k_is); (case a32 => k_is); (case l32 => k_is); (case c32 => k_is); (case k32 => k_is); (case a33 => k_is); (case l33 => k_is); (case c33 => k_is); (case k33 => k_is); (case a34 => k_is); (case l34 => k_is); (case c34 => k_is); (case k34 => k_is); (case a35 => k_is); (case l35 => k_is); (case c35 => k_is); (case k35 => k_is); (case a36 => k_is); (case l36 => k_is); (case c36 => k_is); (case k36 => k_is); (case a37 => k_is); (case l37 => k_is); (case c37 => k_is); (case k37 => k_is); (case z_len => k_is); (case z_abs => k_is); (case z_int => k_is); (case z_range => k_is); (case z_tuple => k_is); (case z_sorted => k_is); (case z_set => k_is); (case z_max => k_is); (case z_isinstance => k_is); (case z_bool => k_is); (case z_list => k_is); (case z_str => k_is); (case z_zip => k_is); (case z_all => k_is); (case z_enumerate => k_is); (case z_min => k_is); (case g_SIGNS => k_is); (case h_SIGNS => k_is); (case g_FAR => k_is); (case g_MOST_BEATS => k_is); (case g_NOUGHT => k_is); (case h_NOUGHT => k_is)
end
