import PyProof.Rows.All
import Wide.All
import OpenK.AllK
import Wide.FinOn
import HandS.ForMost
import HandS.ForExc
import HandS.ExcInit
import HandS.ExcField
import HandS.ExcIs
import HandS.Lambda
import HandS.EndTab
import HandS.TupAny
import HandS.Style
import HandS.IsInst
import HandS.SortOrd
import KE.DataEq
import KE.DataCmp
import KE.SortData
import KE.KxIndex
import HandS.NoneIn
import HandS.Zip
import HandS.Iter
import HandS.Comp
import KE.GoesEnum
import PyProof.ReprRoads
import HandS.Dict
import HandS.DictTup
import HandS.DictComp
import KE.KUnpackStar
import HandS.More
import PyProof.DictCompW
import HandS.ExcSuper
import KE.KTryMore
import KE.KExcIs
import PySem.Challenge.RW_eartree_k06_rows_of_sayings
set_option Elab.async false
set_option linter.all false
set_option maxRecDepth 100000
set_option maxHeartbeats 4000000
/-! Z1: data as trees (D), how a tree stands in the abstract heap (Tr), the state of a def's body (W). -/
namespace Z
open PySem PySem.Spec PyProof.Rows L2

/-- a dict's keys in order: ints and texts, or tuples of these -/
inductive KK where
  | k (ks : List Key) | t (ks : List (List Key))
def KK.len : KK → Nat
  | .k ks => ks.length
  | .t ks => ks.length

/-- data as a tree; o: the list's (dict's) own node is nobody else's -/
inductive D where
  | non | bl (b : Bool) | int (i : Int) | str (s : Str)
  | tup (l : List D)
  | lst (o : Bool) (l : List D)
  | dct (o : Bool) (ks : KK) (l : List D)
  | ins (o : Bool) (C : Str) (ns : List Str) (l : List D)
  | scr (l : List Int)
  | ty (n : String)
  | cls (C : Str)
  | xcp (C : Str) (ns : List Str) (l : List D)

structure Cfg where
  K : PySem.W.Frag
  cls : Str → Addr
  T : List (Addr × Str)

mutual
/-- no node in it is owned -/
def noOwn : D → Bool
  | .tup l => noOwns l
  | .lst o l => !o && noOwns l
  | .dct o _ l => !o && noOwns l
  | .ins o _ _ l => !o && noOwns l
  | .xcp _ _ l => noOwns l
  | _ => true
def noOwns : List D → Bool
  | [] => true
  | d :: r => noOwn d && noOwns r
end
mutual
/-- nothing that can change lies in it -/
def imm : D → Bool
  | .tup l => imms l
  | .lst _ _ | .dct _ _ _ | .ins _ _ _ _ | .scr _ | .xcp _ _ _ => false
  | _ => true
def imms : List D → Bool
  | [] => true
  | d :: r => imm d && imms r
end
mutual
def freeze : D → D
  | .tup l => .tup (freezes l)
  | .lst _ l => .lst false (freezes l)
  | .dct _ ks l => .dct false ks (freezes l)
  | .ins _ C ns l => .ins false C ns (freezes l)
  | .xcp C ns l => .xcp C ns (freezes l)
  | .non => .non | .bl b => .bl b | .int i => .int i | .str s => .str s | .scr l => .scr l | .ty n => .ty n | .cls C => .cls C
def freezes : List D → List D
  | [] => []
  | d :: r => freeze d :: freezes r
end
mutual
theorem freeze_noOwn : ∀ d : D, noOwn d = true → freeze d = d
  | .non, _ => rfl
  | .bl _, _ => rfl
  | .int _, _ => rfl
  | .str _, _ => rfl
  | .scr _, _ => rfl
  | .ty _, _ => rfl
  | .cls _, _ => rfl
  | .xcp C ns l, h => by simp only [freeze]; rw [freezes_noOwn l (by simpa [noOwn] using h)]
  | .tup l, h => by simp only [freeze]; rw [freezes_noOwn l (by simpa [noOwn] using h)]
  | .lst o l, h => by
    have h' : o = false ∧ noOwns l = true := by simpa [noOwn] using h
    simp only [freeze]; rw [freezes_noOwn l h'.2, h'.1]
  | .dct o ks l, h => by
    have h' : o = false ∧ noOwns l = true := by simpa [noOwn] using h
    simp only [freeze]; rw [freezes_noOwn l h'.2, h'.1]
  | .ins o C ns l, h => by
    have h' : o = false ∧ noOwns l = true := by simpa [noOwn] using h
    simp only [freeze]; rw [freezes_noOwn l h'.2, h'.1]
theorem freezes_noOwn : ∀ l : List D, noOwns l = true → freezes l = l
  | [], _ => rfl
  | d :: r, h => by
    have h' : noOwn d = true ∧ noOwns r = true := by simpa [noOwns] using h
    simp only [freezes]; rw [freeze_noOwn d h'.1, freezes_noOwn r h'.2]
end
mutual
theorem noOwn_freeze : ∀ d : D, noOwn (freeze d) = true
  | .non => rfl
  | .bl _ => rfl
  | .int _ => rfl
  | .str _ => rfl
  | .scr _ => rfl
  | .ty _ => rfl
  | .cls _ => rfl
  | .xcp C ns l => by simp only [freeze, noOwn]; exact noOwns_freezes l
  | .tup l => by simp only [freeze, noOwn]; exact noOwns_freezes l
  | .lst o l => by simp only [freeze, noOwn, Bool.not_false, Bool.true_and]; exact noOwns_freezes l
  | .dct o ks l => by simp only [freeze, noOwn, Bool.not_false, Bool.true_and]; exact noOwns_freezes l
  | .ins o C ns l => by simp only [freeze, noOwn, Bool.not_false, Bool.true_and]; exact noOwns_freezes l
theorem noOwns_freezes : ∀ l : List D, noOwns (freezes l) = true
  | [] => rfl
  | d :: r => by simp only [freezes, noOwns, noOwn_freeze d, noOwns_freezes r, Bool.and_self]
end
mutual
theorem noOwn_imm : ∀ d : D, imm d = true → noOwn d = true
  | .non, _ => rfl
  | .bl _, _ => rfl
  | .int _, _ => rfl
  | .str _, _ => rfl
  | .tup l, h => by simp only [noOwn]; exact noOwns_imms l (by simpa [imm] using h)
  | .lst o l, h => by simp [imm] at h
  | .dct o ks l, h => by simp [imm] at h
  | .ins o C ns l, h => by simp [imm] at h
  | .scr l, h => by simp [imm] at h
  | .ty _, _ => rfl
  | .cls _, _ => rfl
  | .xcp C ns l, h => by simp [imm] at h
theorem noOwns_imms : ∀ l : List D, imms l = true → noOwns l = true
  | [], _ => rfl
  | d :: r, h => by
    have h' : imm d = true ∧ imms r = true := by simpa [imms] using h
    simp only [noOwns, noOwn_imm d h'.1, noOwns_imms r h'.2, Bool.and_self]
end
theorem freezes_map (l : List D) : freezes l = l.map freeze := by
  induction l with
  | nil => rfl
  | cons d r ih => simp only [freezes, List.map_cons, ih]
theorem imms_all (l : List D) : imms l = l.all imm := by
  induction l with
  | nil => rfl
  | cons d r ih => simp only [imms, List.all_cons, ih]
theorem noOwns_all (l : List D) : noOwns l = l.all noOwn := by
  induction l with
  | nil => rfl
  | cons d r ih => simp only [noOwns, List.all_cons, ih]
theorem freezes_length (l : List D) : (freezes l).length = l.length := by rw [freezes_map, List.length_map]

/-! ### trees in the abstract heap -/
/-- a dict's content as it stands -/
def DHo (o : Option HO) (ks : KK) (xs : List V) : Prop :=
  (∃ kvs : List (Key × V), o = some (.dK kvs) ∧ ks = .k (kvs.map (·.1)) ∧ xs = kvs.map (·.2) ∧ (kvs.map (·.1)).Nodup) ∨
  (∃ kvs : List (List Key × V), o = some (.dT kvs) ∧ ks = .t (kvs.map (·.1)) ∧ xs = kvs.map (·.2) ∧ (kvs.map (·.1)).Nodup)
theorem DHo.len {o : Option HO} {ks : KK} {xs : List V} (h : DHo o ks xs) : ks.len = xs.length := by
  rcases h with ⟨kvs, _, rfl, rfl, _⟩ | ⟨kvs, _, rfl, rfl, _⟩ <;> simp [KK.len]
theorem DHo.mut {o : Option HO} {ks : KK} {xs : List V} (h : DHo o ks xs) : Mut o := by
  rcases h with ⟨kvs, rfl, _⟩ | ⟨kvs, rfl, _⟩ <;> trivial

/-- an instance of the class C: its attributes ns in order -/
def IHo (G : Cfg) (H : Hp) (a : Addr) (C : Str) (ns : List Str) (xs : List V) : Prop :=
  ∃ dx fs, H a = some (.ins (G.cls C) dx fs) ∧ ns = fs.map (·.1) ∧ xs = fs.map (·.2)

/-- what may be changed by this layer -/
def isMut : HO → Prop
  | .lst _ | .dK _ | .dT _ | .ins _ _ _ => True
  | _ => False
/-- a caught exception at a: its class, its dict -/
def Xo (C : Addr) (d : Option Addr) (a : Addr) : HO := .ext fun h => ∃ (oe : Obj) (vs : Array Value), h.get? a = some oe ∧ Zc (.ref C) d oe ∧ oe.data = .fields vs
theorem Xo.not {C : Addr} {d : Option Addr} {a : Addr} : ¬ isMut (Xo C d a) := fun z => z
theorem Xo.nt {C : Addr} {d : Option Addr} {a : Addr} (ps : Array Value) : Xo C d a ≠ .tbl ps := fun z => by
  unfold Xo at z
  cases z
/-- the fields of an exception, in its dict -/
def XdAt (H : Hp) (d : Option Addr) (ns : List Str) (xs : List V) : Prop := (d = none ∧ ns = []) ∨ ∃ dx, d = some dx ∧ H dx = some (.xd (ns.zip xs))
mutual
/-- v is the tree d; O: the owned nodes, in order; all other nodes that can change are frozen -/
def Tr (G : Cfg) (H : Hp) (F : Addr → Prop) : D → V → List Addr → Prop
  | .non, v, O => v = .non ∧ O = []
  | .bl b, v, O => v = .bl b ∧ O = []
  | .int i, v, O => v = .int i ∧ O = []
  | .str s, v, O => v = .str s ∧ O = []
  | .ty s, v, O => v = .ty s ∧ O = []
  | .cls C, v, O => v = .ref (G.cls C) ∧ O = []
  | .xcp C ns l, v, O => ∃ a d xs, v = .ref a ∧ H a = some (Xo (G.cls C) d a) ∧ XdAt H d ns xs ∧ ns.length = l.length ∧ TrL G H F l xs O
  | .scr l, v, O => ∃ a, v = .ref a ∧ ((∃ o, H a = some (.frz o (.lst (l.map V.int)))) ∨ (∀ H', SqL G.K H' a (l.map V.int))) ∧ O = []
  | .tup l, v, O => ∃ a xs, v = .ref a ∧ H a = some (.tup xs) ∧ TrL G H F l xs O
  | .lst true l, v, O => ∃ a xs O', v = .ref a ∧ H a = some (.lst xs) ∧ TrL G H F l xs O' ∧ O = a :: O'
  | .lst false l, v, O => ∃ a xs, v = .ref a ∧ H a = some (.lst xs) ∧ F a ∧ TrL G H F l xs [] ∧ O = []
  | .dct true ks l, v, O => ∃ a xs O', v = .ref a ∧ DHo (H a) ks xs ∧ TrL G H F l xs O' ∧ O = a :: O'
  | .dct false ks l, v, O => ∃ a xs, v = .ref a ∧ (DHo (H a) ks xs ∨ ∃ o u, H a = some (.frz o u) ∧ DHo (some u) ks xs) ∧ F a ∧ TrL G H F l xs [] ∧ O = []
  | .ins true C ns l, v, O => ∃ a xs O', v = .ref a ∧ IHo G H a C ns xs ∧ TrL G H F l xs O' ∧ O = a :: O'
  | .ins false C ns l, v, O => ∃ a xs, v = .ref a ∧ IHo G H a C ns xs ∧ F a ∧ TrL G H F l xs [] ∧ O = []
def TrL (G : Cfg) (H : Hp) (F : Addr → Prop) : List D → List V → List Addr → Prop
  | [], xs, O => xs = [] ∧ O = []
  | d :: r, xs, O => ∃ x ys O1 O2, xs = x :: ys ∧ Tr G H F d x O1 ∧ TrL G H F r ys O2 ∧ O = O1 ++ O2
end

variable {G : Cfg} {H H' : Hp} {F F' : Addr → Prop}
theorem TrL.len : ∀ {l : List D} {xs : List V} {O : List Addr}, TrL G H F l xs O → xs.length = l.length
  | [], _, _, h => by simp only [TrL] at h; rw [h.1] <;> rfl
  | d :: r, _, _, h => by
    simp only [TrL] at h
    obtain ⟨x, ys, O1, O2, rfl, _, h2, _⟩ := h
    simp only [List.length_cons, TrL.len h2]

mutual
theorem Tr.noOwn : ∀ {d : D} {v : V} {O : List Addr}, noOwn d = true → Tr G H F d v O → O = []
  | .non, _, _, _, h => by simp only [Tr] at h; exact h.2
  | .bl _, _, _, _, h => by simp only [Tr] at h; exact h.2
  | .int _, _, _, _, h => by simp only [Tr] at h; exact h.2
  | .str _, _, _, _, h => by simp only [Tr] at h; exact h.2
  | .ty _, _, _, _, h => by simp only [Tr] at h; exact h.2
  | .cls _, _, _, _, h => by simp only [Tr] at h; exact h.2
  | .xcp C ns l, _, _, n, h => by
    simp only [Tr] at h
    obtain ⟨_, _, _, _, _, _, _, h⟩ := h
    exact TrL.noOwns (by simpa [Z.noOwn] using n) h
  | .scr _, _, _, _, h => by simp only [Tr] at h; obtain ⟨_, _, _, e⟩ := h; exact e
  | .tup l, _, _, n, h => by
    simp only [Tr] at h
    obtain ⟨_, _, _, _, h⟩ := h
    exact TrL.noOwns (by simpa [Z.noOwn] using n) h
  | .lst true l, _, _, n, h => by simp [Z.noOwn] at n
  | .lst false l, _, _, n, h => by simp only [Tr] at h; obtain ⟨_, _, _, _, _, _, e⟩ := h; exact e
  | .dct true ks l, _, _, n, h => by simp [Z.noOwn] at n
  | .dct false ks l, _, _, n, h => by simp only [Tr] at h; obtain ⟨_, _, _, _, _, _, e⟩ := h; exact e
  | .ins true C ns l, _, _, n, h => by simp [Z.noOwn] at n
  | .ins false C ns l, _, _, n, h => by simp only [Tr] at h; obtain ⟨_, _, _, _, _, _, e⟩ := h; exact e
theorem TrL.noOwns : ∀ {l : List D} {xs : List V} {O : List Addr}, noOwns l = true → TrL G H F l xs O → O = []
  | [], _, _, _, h => by simp only [TrL] at h; exact h.2
  | d :: r, _, _, n, h => by
    simp only [TrL] at h
    obtain ⟨x, ys, O1, O2, _, h1, h2, e⟩ := h
    have n' : Z.noOwn d = true ∧ Z.noOwns r = true := by simpa [Z.noOwns] using n
    rw [e, Tr.noOwn n'.1 h1, TrL.noOwns n'.2 h2]
    rfl
end
mutual
theorem Tr.mono (k : ∀ a, F a → F' a) : ∀ {d : D} {v : V} {O : List Addr}, Tr G H F d v O → Tr G H F' d v O
  | .non, _, _, h => by simp only [Tr] at h ⊢; exact h
  | .bl _, _, _, h => by simp only [Tr] at h ⊢; exact h
  | .int _, _, _, h => by simp only [Tr] at h ⊢; exact h
  | .str _, _, _, h => by simp only [Tr] at h ⊢; exact h
  | .ty _, _, _, h => by simp only [Tr] at h ⊢; exact h
  | .cls _, _, _, h => by simp only [Tr] at h ⊢; exact h
  | .xcp C ns l, _, _, h => by
    simp only [Tr] at h ⊢
    obtain ⟨a, d, xs, e, e1, e2, e3, h⟩ := h
    exact ⟨a, d, xs, e, e1, e2, e3, TrL.mono k h⟩
  | .scr _, _, _, h => by simp only [Tr] at h ⊢; exact h
  | .tup l, _, _, h => by
    simp only [Tr] at h ⊢
    obtain ⟨a, xs, e, e1, h⟩ := h
    exact ⟨a, xs, e, e1, TrL.mono k h⟩
  | .lst true l, _, _, h => by
    simp only [Tr] at h ⊢
    obtain ⟨a, xs, O', e, e1, h, e2⟩ := h
    exact ⟨a, xs, O', e, e1, TrL.mono k h, e2⟩
  | .lst false l, _, _, h => by
    simp only [Tr] at h ⊢
    obtain ⟨a, xs, e, e1, f, h, e2⟩ := h
    exact ⟨a, xs, e, e1, k _ f, TrL.mono k h, e2⟩
  | .dct true ks l, _, _, h => by
    simp only [Tr] at h ⊢
    obtain ⟨a, xs, O', e, e1, h, e2⟩ := h
    exact ⟨a, xs, O', e, e1, TrL.mono k h, e2⟩
  | .dct false ks l, _, _, h => by
    simp only [Tr] at h ⊢
    obtain ⟨a, xs, e, e1, f, h, e2⟩ := h
    exact ⟨a, xs, e, e1, k _ f, TrL.mono k h, e2⟩
  | .ins true C ns l, _, _, h => by
    simp only [Tr] at h ⊢
    obtain ⟨a, xs, O', e, e1, h, e2⟩ := h
    exact ⟨a, xs, O', e, e1, TrL.mono k h, e2⟩
  | .ins false C ns l, _, _, h => by
    simp only [Tr] at h ⊢
    obtain ⟨a, xs, e, e1, f, h, e2⟩ := h
    exact ⟨a, xs, e, e1, k _ f, TrL.mono k h, e2⟩
theorem TrL.mono (k : ∀ a, F a → F' a) : ∀ {l : List D} {xs : List V} {O : List Addr}, TrL G H F l xs O → TrL G H F' l xs O
  | [], _, _, h => by simp only [TrL] at h ⊢; exact h
  | d :: r, _, _, h => by
    simp only [TrL] at h ⊢
    obtain ⟨x, ys, O1, O2, e, h1, h2, e2⟩ := h
    exact ⟨x, ys, O1, O2, e, Tr.mono k h1, TrL.mono k h2, e2⟩
end
theorem isMut.ne {a b : Addr} {o u : HO} (h : H a = some o) (m : isMut o) (h' : H b = some u) (m' : ¬ isMut u) : b ≠ a := by
  intro e; subst e; rw [h] at h'; cases h'; exact m' m
/-- all but what is at M stays; M can be changed -/
structure Stay (M : List Addr) (H H' : Hp) : Prop where
  k : ∀ b o, H b = some o → b ∉ M → (∀ ps, o ≠ .tbl ps) → H' b = some o
  m : ∀ b ∈ M, ∀ o, H b = some o → isMut o
theorem Stay.same {M : List Addr} {b : Addr} {o : HO} (s : Stay M H H') (h : H b = some o) (n : ¬ isMut o) (nt : ∀ ps, o ≠ .tbl ps := by intro _ z; cases z) : H' b = some o :=
  s.k b o h (fun hm => n (s.m b hm o h)) nt
theorem XdAt.stay {M : List Addr} {d : Option Addr} {ns : List Str} {xs : List V} (s : Stay M H H') (h : XdAt H d ns xs) : XdAt H' d ns xs := h.imp id fun ⟨dx, e, q⟩ => ⟨dx, e, s.same q fun z => z⟩
mutual
theorem Tr.stay {M : List Addr} (s : Stay M H H') (hF : ∀ a, F a → a ∉ M) : ∀ {d : D} {v : V} {O : List Addr}, (∀ a ∈ O, a ∉ M) → Tr G H F d v O → Tr G H' F d v O
  | .non, _, _, _, h => by simp only [Tr] at h ⊢; exact h
  | .bl _, _, _, _, h => by simp only [Tr] at h ⊢; exact h
  | .int _, _, _, _, h => by simp only [Tr] at h ⊢; exact h
  | .str _, _, _, _, h => by simp only [Tr] at h ⊢; exact h
  | .ty _, _, _, _, h => by simp only [Tr] at h ⊢; exact h
  | .cls _, _, _, _, h => by simp only [Tr] at h ⊢; exact h
  | .xcp C ns l, _, _, hO, h => by
    simp only [Tr] at h ⊢
    obtain ⟨a, d, xs, e, e1, e2, e3, h⟩ := h
    exact ⟨a, d, xs, e, s.same e1 Xo.not Xo.nt, e2.stay s, e3, TrL.stay s hF hO h⟩
  | .scr _, _, _, _, h => by
    simp only [Tr] at h ⊢
    obtain ⟨a, e, h, e2⟩ := h
    refine ⟨a, e, ?_, e2⟩
    rcases h with ⟨o, h⟩ | h
    · exact .inl ⟨o, s.same h (fun z => z)⟩
    · exact .inr h
  | .tup l, _, _, hO, h => by
    simp only [Tr] at h ⊢
    obtain ⟨a, xs, e, e1, h⟩ := h
    exact ⟨a, xs, e, s.same e1 (fun z => z), TrL.stay s hF hO h⟩
  | .lst true l, _, _, hO, h => by
    simp only [Tr] at h ⊢
    obtain ⟨a, xs, O', e, e1, h, e2⟩ := h
    subst e2
    exact ⟨a, xs, O', e, s.k a _ e1 (hO a List.mem_cons_self) (by intro _ z; cases z), TrL.stay s hF (fun b hb => hO b (List.mem_cons_of_mem _ hb)) h, rfl⟩
  | .lst false l, _, _, hO, h => by
    simp only [Tr] at h ⊢
    obtain ⟨a, xs, e, e1, f, h, e2⟩ := h
    exact ⟨a, xs, e, s.k a _ e1 (hF a f) (by intro _ z; cases z), f, TrL.stay s hF (fun b hb => nomatch hb) h, e2⟩
  | .dct true ks l, _, _, hO, h => by
    simp only [Tr] at h ⊢
    obtain ⟨a, xs, O', e, e1, h, e2⟩ := h
    subst e2
    refine ⟨a, xs, O', e, ?_, TrL.stay s hF (fun b hb => hO b (List.mem_cons_of_mem _ hb)) h, rfl⟩
    rcases e1 with ⟨kvs, e1, e3⟩ | ⟨kvs, e1, e3⟩
    · exact .inl ⟨kvs, s.k a _ e1 (hO a List.mem_cons_self) (by intro _ z; cases z), e3⟩
    · exact .inr ⟨kvs, s.k a _ e1 (hO a List.mem_cons_self) (by intro _ z; cases z), e3⟩
  | .dct false ks l, _, _, hO, h => by
    simp only [Tr] at h ⊢
    obtain ⟨a, xs, e, e1, f, h, e2⟩ := h
    refine ⟨a, xs, e, ?_, f, TrL.stay s hF (fun b hb => nomatch hb) h, e2⟩
    rcases e1 with (⟨kvs, e1, e3⟩ | ⟨kvs, e1, e3⟩) | ⟨o, u, e1, e3⟩
    · exact .inl (.inl ⟨kvs, s.k a _ e1 (hF a f) (by intro _ z; cases z), e3⟩)
    · exact .inl (.inr ⟨kvs, s.k a _ e1 (hF a f) (by intro _ z; cases z), e3⟩)
    · exact .inr ⟨o, u, s.k a _ e1 (hF a f) (by intro _ z; cases z), e3⟩
  | .ins true C ns l, _, _, hO, h => by
    simp only [Tr] at h ⊢
    obtain ⟨a, xs, O', e, ⟨dx, fs, e1, e3⟩, h, e2⟩ := h
    subst e2
    exact ⟨a, xs, O', e, ⟨dx, fs, s.k a _ e1 (hO a List.mem_cons_self) (by intro _ z; cases z), e3⟩, TrL.stay s hF (fun b hb => hO b (List.mem_cons_of_mem _ hb)) h, rfl⟩
  | .ins false C ns l, _, _, hO, h => by
    simp only [Tr] at h ⊢
    obtain ⟨a, xs, e, ⟨dx, fs, e1, e3⟩, f, h, e2⟩ := h
    exact ⟨a, xs, e, ⟨dx, fs, s.k a _ e1 (hF a f) (by intro _ z; cases z), e3⟩, f, TrL.stay s hF (fun b hb => nomatch hb) h, e2⟩
theorem TrL.stay {M : List Addr} (s : Stay M H H') (hF : ∀ a, F a → a ∉ M) : ∀ {l : List D} {xs : List V} {O : List Addr}, (∀ a ∈ O, a ∉ M) → TrL G H F l xs O → TrL G H' F l xs O
  | [], _, _, _, h => by simp only [TrL] at h ⊢; exact h
  | d :: r, _, _, hO, h => by
    simp only [TrL] at h ⊢
    obtain ⟨x, ys, O1, O2, e, h1, h2, e2⟩ := h
    subst e2
    exact ⟨x, ys, O1, O2, e, Tr.stay s hF (fun b hb => hO b (List.mem_append_left _ hb)) h1, TrL.stay s hF (fun b hb => hO b (List.mem_append_right _ hb)) h2, rfl⟩
end
mutual
theorem Tr.own : ∀ {d : D} {v : V} {O : List Addr}, Tr G H F d v O → ∀ a ∈ O, ∃ o, H a = some o ∧ isMut o
  | .non, _, _, h => by simp only [Tr] at h; rw [h.2]; exact fun a hm => nomatch hm
  | .bl _, _, _, h => by simp only [Tr] at h; rw [h.2]; exact fun a hm => nomatch hm
  | .int _, _, _, h => by simp only [Tr] at h; rw [h.2]; exact fun a hm => nomatch hm
  | .str _, _, _, h => by simp only [Tr] at h; rw [h.2]; exact fun a hm => nomatch hm
  | .ty _, _, _, h => by simp only [Tr] at h; rw [h.2]; exact fun a hm => nomatch hm
  | .cls _, _, _, h => by simp only [Tr] at h; rw [h.2]; exact fun a hm => nomatch hm
  | .xcp C ns l, _, _, h => by simp only [Tr] at h; obtain ⟨_, _, _, _, _, _, _, h⟩ := h; exact TrL.own h
  | .scr _, _, _, h => by simp only [Tr] at h; obtain ⟨_, _, _, e⟩ := h; rw [e]; exact fun a hm => nomatch hm
  | .tup l, _, _, h => by simp only [Tr] at h; obtain ⟨_, _, _, _, h⟩ := h; exact TrL.own h
  | .lst true l, _, _, h => by
    simp only [Tr] at h
    obtain ⟨a, xs, O', e, e1, h, e2⟩ := h
    intro b hb
    rw [e2] at hb
    rcases List.mem_cons.mp hb with rfl | hb
    · exact ⟨_, e1, trivial⟩
    · exact TrL.own h b hb
  | .lst false l, _, _, h => by simp only [Tr] at h; obtain ⟨_, _, _, _, _, _, e⟩ := h; rw [e]; exact fun a hm => nomatch hm
  | .dct true ks l, _, _, h => by
    simp only [Tr] at h
    obtain ⟨a, xs, O', e, e1, h, e2⟩ := h
    intro b hb
    rw [e2] at hb
    rcases List.mem_cons.mp hb with rfl | hb
    · rcases e1 with ⟨kvs, e1, _⟩ | ⟨kvs, e1, _⟩ <;> exact ⟨_, e1, trivial⟩
    · exact TrL.own h b hb
  | .dct false ks l, _, _, h => by simp only [Tr] at h; obtain ⟨_, _, _, _, _, _, e⟩ := h; rw [e]; exact fun a hm => nomatch hm
  | .ins true C ns l, _, _, h => by
    simp only [Tr] at h
    obtain ⟨a, xs, O', e, ⟨dx, fs, e1, _⟩, h, e2⟩ := h
    intro b hb
    rw [e2] at hb
    rcases List.mem_cons.mp hb with rfl | hb
    · exact ⟨_, e1, trivial⟩
    · exact TrL.own h b hb
  | .ins false C ns l, _, _, h => by simp only [Tr] at h; obtain ⟨_, _, _, _, _, _, e⟩ := h; rw [e]; exact fun a hm => nomatch hm
theorem TrL.own : ∀ {l : List D} {xs : List V} {O : List Addr}, TrL G H F l xs O → ∀ a ∈ O, ∃ o, H a = some o ∧ isMut o
  | [], _, _, h => by simp only [TrL] at h; rw [h.2]; exact fun a hm => nomatch hm
  | d :: r, _, _, h => by
    simp only [TrL] at h
    obtain ⟨x, ys, O1, O2, _, h1, h2, e2⟩ := h
    intro b hb
    rw [e2] at hb
    rcases List.mem_append.mp hb with hb | hb
    · exact Tr.own h1 b hb
    · exact TrL.own h2 b hb
end
mutual
/-- frozen, with all its nodes -/
theorem Tr.freeze (k : ∀ a, F a → F' a) : ∀ {d : D} {v : V} {O : List Addr}, Tr G H F d v O → (∀ a ∈ O, F' a) → Tr G H F' (freeze d) v []
  | .non, _, _, h, _ => by simp only [Tr, Z.freeze] at h ⊢; exact ⟨h.1, trivial⟩
  | .bl _, _, _, h, _ => by simp only [Tr, Z.freeze] at h ⊢; exact ⟨h.1, trivial⟩
  | .int _, _, _, h, _ => by simp only [Tr, Z.freeze] at h ⊢; exact ⟨h.1, trivial⟩
  | .str _, _, _, h, _ => by simp only [Tr, Z.freeze] at h ⊢; exact ⟨h.1, trivial⟩
  | .ty _, _, _, h, _ => by simp only [Tr, Z.freeze] at h ⊢; exact ⟨h.1, trivial⟩
  | .cls _, _, _, h, _ => by simp only [Tr, Z.freeze] at h ⊢; exact ⟨h.1, trivial⟩
  | .xcp C ns l, _, _, h, q => by
    simp only [Tr, Z.freeze] at h ⊢
    obtain ⟨a, d, xs, e, e1, e2, e3, h⟩ := h
    exact ⟨a, d, xs, e, e1, e2, by rw [freezes_length]; exact e3, TrL.freeze k h q⟩
  | .scr _, _, _, h, _ => by simp only [Tr, Z.freeze] at h ⊢; obtain ⟨a, e, h, _⟩ := h; exact ⟨a, e, h, trivial⟩
  | .tup l, _, _, h, q => by
    simp only [Tr, Z.freeze] at h ⊢
    obtain ⟨a, xs, e, e1, h⟩ := h
    exact ⟨a, xs, e, e1, TrL.freeze k h q⟩
  | .lst true l, _, _, h, q => by
    simp only [Tr, Z.freeze] at h ⊢
    obtain ⟨a, xs, O', e, e1, h, e2⟩ := h
    subst e2
    exact ⟨a, xs, e, e1, q a List.mem_cons_self, TrL.freeze k h (fun b hb => q b (List.mem_cons_of_mem _ hb)), trivial⟩
  | .lst false l, _, _, h, q => by
    simp only [Tr, Z.freeze] at h ⊢
    obtain ⟨a, xs, e, e1, f, h, e2⟩ := h
    exact ⟨a, xs, e, e1, k a f, TrL.freeze k h (fun b hb => nomatch hb), trivial⟩
  | .dct true ks l, _, _, h, q => by
    simp only [Tr, Z.freeze] at h ⊢
    obtain ⟨a, xs, O', e, e1, h, e2⟩ := h
    subst e2
    exact ⟨a, xs, e, .inl e1, q a List.mem_cons_self, TrL.freeze k h (fun b hb => q b (List.mem_cons_of_mem _ hb)), trivial⟩
  | .dct false ks l, _, _, h, q => by
    simp only [Tr, Z.freeze] at h ⊢
    obtain ⟨a, xs, e, e1, f, h, e2⟩ := h
    exact ⟨a, xs, e, e1, k a f, TrL.freeze k h (fun b hb => nomatch hb), trivial⟩
  | .ins true C ns l, _, _, h, q => by
    simp only [Tr, Z.freeze] at h ⊢
    obtain ⟨a, xs, O', e, e1, h, e2⟩ := h
    subst e2
    exact ⟨a, xs, e, e1, q a List.mem_cons_self, TrL.freeze k h (fun b hb => q b (List.mem_cons_of_mem _ hb)), trivial⟩
  | .ins false C ns l, _, _, h, q => by
    simp only [Tr, Z.freeze] at h ⊢
    obtain ⟨a, xs, e, e1, f, h, e2⟩ := h
    exact ⟨a, xs, e, e1, k a f, TrL.freeze k h (fun b hb => nomatch hb), trivial⟩
theorem TrL.freeze (k : ∀ a, F a → F' a) : ∀ {l : List D} {xs : List V} {O : List Addr}, TrL G H F l xs O → (∀ a ∈ O, F' a) → TrL G H F' (freezes l) xs []
  | [], _, _, h, _ => by simp only [TrL, freezes] at h ⊢; exact ⟨h.1, trivial⟩
  | d :: r, _, _, h, q => by
    simp only [TrL, freezes] at h ⊢
    obtain ⟨x, ys, O1, O2, e, h1, h2, e2⟩ := h
    subst e2
    exact ⟨x, ys, [], [], e, Tr.freeze k h1 (fun b hb => q b (List.mem_append_left _ hb)), TrL.freeze k h2 (fun b hb => q b (List.mem_append_right _ hb)), rfl⟩
end

/-! ### items: values with their trees -/
abbrev It := V × D
def Own (G : Cfg) (H : Hp) (F : Addr → Prop) : List It → List Addr → Prop
  | [], O => O = []
  | p :: r, O => ∃ O1 O2, Tr G H F p.2 p.1 O1 ∧ Own G H F r O2 ∧ O = O1 ++ O2
theorem Own.perm : ∀ {g g' : List It}, g.Perm g' → ∀ {O : List Addr}, Own G H F g O → ∃ O', Own G H F g' O' ∧ O.Perm O' := by
  intro g g' p
  induction p with
  | nil => exact fun {O} h => ⟨O, h, .refl _⟩
  | cons x _ ih =>
    intro O h
    obtain ⟨O1, O2, h1, h2, e⟩ := h
    obtain ⟨O', h3, p⟩ := ih h2
    exact ⟨O1 ++ O', ⟨O1, O', h1, h3, rfl⟩, by rw [e]; exact p.append_left O1⟩
  | swap x y l =>
    intro O h
    obtain ⟨O1, O2, h1, ⟨O3, O4, h3, h4, e2⟩, e⟩ := h
    refine ⟨O3 ++ (O1 ++ O4), ⟨O3, _, h3, ⟨O1, O4, h1, h4, rfl⟩, rfl⟩, ?_⟩
    rw [e, e2, ← List.append_assoc, ← List.append_assoc]
    exact List.perm_append_comm.append_right O4
  | trans _ _ ih1 ih2 =>
    intro O h
    obtain ⟨O', h1, p1⟩ := ih1 h
    obtain ⟨O'', h2, p2⟩ := ih2 h1
    exact ⟨O'', h2, p1.trans p2⟩
theorem Own.stay {M : List Addr} (s : Stay M H H') (hF : ∀ a, F a → a ∉ M) : ∀ {g : List It} {O : List Addr}, (∀ a ∈ O, a ∉ M) → Own G H F g O → Own G H' F g O
  | [], _, _, h => h
  | p :: r, _, hO, h => by
    obtain ⟨O1, O2, h1, h2, e⟩ := h
    subst e
    exact ⟨O1, O2, Tr.stay s hF (fun b hb => hO b (List.mem_append_left _ hb)) h1, Own.stay s hF (fun b hb => hO b (List.mem_append_right _ hb)) h2, rfl⟩
theorem Own.mono (k : ∀ a, F a → F' a) : ∀ {g : List It} {O : List Addr}, Own G H F g O → Own G H F' g O
  | [], _, h => h
  | p :: r, _, h => by
    obtain ⟨O1, O2, h1, h2, e⟩ := h
    exact ⟨O1, O2, Tr.mono k h1, Own.mono k h2, e⟩
theorem Own.own : ∀ {g : List It} {O : List Addr}, Own G H F g O → ∀ a ∈ O, ∃ o, H a = some o ∧ isMut o
  | [], _, h => by rw [show _ = [] from h]; exact fun a hm => nomatch hm
  | p :: r, _, h => by
    obtain ⟨O1, O2, h1, h2, e⟩ := h
    intro b hb
    rw [e] at hb
    rcases List.mem_append.mp hb with hb | hb
    · exact Tr.own h1 b hb
    · exact Own.own h2 b hb
theorem Own.app : ∀ {g g' : List It} {O : List Addr}, Own G H F (g ++ g') O ↔ ∃ O1 O2, Own G H F g O1 ∧ Own G H F g' O2 ∧ O = O1 ++ O2
  | [], g', O => ⟨fun h => ⟨[], O, rfl, h, rfl⟩, fun ⟨O1, O2, h1, h2, e⟩ => by rw [e, show O1 = [] from h1]; exact h2⟩
  | p :: r, g', O => by
    constructor
    · rintro ⟨O1, O2, h1, h2, e⟩
      obtain ⟨O3, O4, h3, h4, e2⟩ := Own.app.mp h2
      exact ⟨O1 ++ O3, O4, ⟨O1, O3, h1, h3, rfl⟩, h4, by rw [e, e2, List.append_assoc]⟩
    · rintro ⟨O1, O2, ⟨O3, O4, h3, h4, e2⟩, h2, e⟩
      exact ⟨O3, O4 ++ O2, h3, Own.app.mpr ⟨O4, O2, h4, h2, rfl⟩, by rw [e, e2, List.append_assoc]⟩
/-- a list's children as items -/
theorem Own.kids : ∀ {l : List D} {xs : List V} {O : List Addr}, xs.length = l.length → (Own G H F (xs.zip l) O ↔ TrL G H F l xs O)
  | [], [], O, _ => by simp only [List.zip_nil_right, TrL, true_and]; exact Iff.rfl
  | d :: r, x :: ys, O, h => by
    have ih := fun O2 => Own.kids (l := r) (xs := ys) (O := O2) (by simpa using h)
    simp only [List.zip_cons_cons, TrL]
    constructor
    · rintro ⟨O1, O2, h1, h2, e⟩
      exact ⟨x, ys, O1, O2, rfl, h1, (ih O2).mp h2, e⟩
    · rintro ⟨x', ys', O1, O2, e0, h1, h2, e⟩
      cases e0
      exact ⟨O1, O2, h1, (ih O2).mpr h2, e⟩
  | [], _ :: _, _, h => by simp at h
  | _ :: _, [], _, h => by simp at h

/-! ### the state of a body -/
/-- at the entry: the abstract heap, the nodes that the body may change, the frozen nodes of the arguments -/
structure Bs where
  H : Hp
  io : List Addr
  arg : Addr → Prop
structure WF (T : List (Addr × Str)) (B : Bs) (H : Hp) (F : Addr → Prop) (O : List Addr) : Prop where
  nd : O.Nodup
  dj : ∀ a ∈ O, ¬ F a
  fd : ∀ a, F a → H a ≠ none
  own : ∀ a ∈ O, B.H a = none ∨ a ∈ B.io
  fz : ∀ a, F a → B.arg a ∨ B.H a = none ∨ a ∈ B.io
  keep : ∀ a o, B.H a = some o → a ∉ B.io → (∀ ps, o ≠ .tbl ps) → H a = some o
  tbs : ∀ a ps, B.H a = some (.tbl ps) → a ∉ B.io → ∃ ps', H a = some (.tbl ps')
  tb : LamX.Tabs T H
theorem WF.there {T : List (Addr × Str)} {B : Bs} {O : List Addr} (w : WF T B H F O) {a : Addr} {o : HO} (h : B.H a = some o) (hi : a ∉ B.io) : H a ≠ none := by
  by_cases q : ∃ ps, o = .tbl ps
  · obtain ⟨ps, rfl⟩ := q
    obtain ⟨ps', e⟩ := w.tbs a ps h hi
    rw [e]; simp
  · rw [w.keep a o h hi fun ps e => q ⟨ps, e⟩]; simp
theorem tabs_upd {T : List (Addr × Str)} {a : Addr} {o : HO} (t : LamX.Tabs T H) (m : ∀ u, H a = some u → isMut u) : LamX.Tabs T (upd H a o) := fun p hp => by
  obtain ⟨ps, h1, h2, h3⟩ := t p hp
  have n1 : p.1 ≠ a := fun z => by have := m _ (z ▸ h1); exact this
  refine ⟨ps, by rw [upd_ne n1]; exact h1, h2, fun pos cv hc => ?_⟩
  obtain ⟨c, e1, e2⟩ := h3 pos cv hc
  have n2 : c ≠ a := fun z => by have := m _ (z ▸ e2); exact this
  exact ⟨c, e1, by rw [upd_ne n2]; exact e2⟩
def W (G : Cfg) (B : Bs) (H : Hp) (g : List It) : Prop := ∃ F O, WF G.T B H F O ∧ Own G H F g O
/-- .. where the node a is open: owned, in no item -/
def Wo (G : Cfg) (B : Bs) (H : Hp) (a : Addr) (g : List It) : Prop := ∃ F O, WF G.T B H F (a :: O) ∧ (∀ o, H a = some o → isMut o) ∧ Own G H F g O
variable {B : Bs} {g g' : List It} {v : V} {d : D} {a p : Addr}
theorem WF.perm {T : List (Addr × Str)} {O O' : List Addr} (w : WF T B H F O) (q : O.Perm O') : WF T B H F O' :=
  ⟨(q.nodup_iff).mp w.nd, fun a h => w.dj a (q.mem_iff.mpr h), w.fd, fun a h => w.own a (q.mem_iff.mpr h), w.fz, w.keep, w.tbs, w.tb⟩
theorem WF.sub {T : List (Addr × Str)} {O O' : List Addr} (w : WF T B H F O) (q : O'.Sublist O) : WF T B H F O' :=
  ⟨w.nd.sublist q, fun a h => w.dj a (q.subset h), w.fd, fun a h => w.own a (q.subset h), w.fz, w.keep, w.tbs, w.tb⟩
theorem W.perm (w : W G B H g) (q : g.Perm g') : W G B H g' := by
  obtain ⟨F, O, w, h⟩ := w
  obtain ⟨O', h', q'⟩ := h.perm q
  exact ⟨F, O', w.perm q', h'⟩
theorem Wo.perm (w : Wo G B H a g) (q : g.Perm g') : Wo G B H a g' := by
  obtain ⟨F, O, w, m, h⟩ := w
  obtain ⟨O', h', q'⟩ := h.perm q
  exact ⟨F, O', w.perm (q'.cons a), m, h'⟩
theorem W.drop (w : W G B H ((v, d) :: g)) : W G B H g := by
  obtain ⟨F, O, w, O1, O2, h1, h2, e⟩ := w
  subst e
  exact ⟨F, O2, w.sub (List.sublist_append_right _ _), h2⟩
theorem W.drops : ∀ {l : List It}, W G B H (l ++ g) → W G B H g
  | [], w => w
  | _ :: _, w => W.drops (W.drop w)
theorem Wo.drop (w : Wo G B H a ((v, d) :: g)) : Wo G B H a g := by
  obtain ⟨F, O, w, m, O1, O2, h1, h2, e⟩ := w
  subst e
  exact ⟨F, O2, w.sub ((List.sublist_append_right _ _).cons_cons a), m, h2⟩
/-- an item frozen -/
theorem W.fz (w : W G B H ((v, d) :: g)) : W G B H ((v, freeze d) :: g) := by
  obtain ⟨F, O, w, O1, O2, h1, h2, e⟩ := w
  subst e
  have w2 := w.sub (List.sublist_append_right O1 O2)
  have nd := List.nodup_append.mp w.nd
  refine ⟨fun a => F a ∨ a ∈ O1, O2, ⟨w2.nd, fun a ha hf => ?_, fun a hf => ?_, w2.own, fun a hf => ?_, w2.keep, w2.tbs, w2.tb⟩, [], O2, Tr.freeze (fun _ => Or.inl) h1 (fun _ => Or.inr), h2.mono (fun _ => Or.inl), rfl⟩
  · rcases hf with hf | hf
    · exact w2.dj a ha hf
    · exact nd.2.2 a hf a ha rfl
  · rcases hf with hf | hf
    · exact w2.fd a hf
    · obtain ⟨o, e, _⟩ := h1.own a hf
      rw [e]; simp
  · rcases hf with hf | hf
    · exact w2.fz a hf
    · exact .inr (w.own a (List.mem_append_left _ hf))
theorem W.fzs : ∀ {l g : List It}, W G B H (l ++ g) → W G B H (l.map (fun p => (p.1, freeze p.2)) ++ g)
  | [], _, w => w
  | (v, d) :: r, g, w => by
    have w1 : W G B H (r ++ ((v, freeze d) :: g)) := W.perm (W.fz w) (by
      show ((v, freeze d) :: (r ++ g)).Perm _
      exact (List.perm_middle (l₁ := r) (a := (v, freeze d)) (l₂ := g)).symm)
    have w2 := W.fzs w1
    exact W.perm w2 (List.perm_middle (l₁ := r.map fun p => (p.1, freeze p.2)) (a := (v, freeze d)) (l₂ := g))

/-- y may be had as e beside the items g -/
def Cp (G : Cfg) (H : Hp) (g : List It) (y : V) (e : D) : Prop := ∀ F O, Own G H F g O → Tr G H F e y []
theorem W.add {y : V} {e : D} (w : W G B H g) (c : Cp G H g y e) : W G B H ((y, e) :: g) := by
  obtain ⟨F, O, w, h⟩ := w
  exact ⟨F, O, w, [], O, c F O h, h, rfl⟩
theorem Wo.add {y : V} {e : D} (w : Wo G B H a g) (c : Cp G H g y e) : Wo G B H a ((y, e) :: g) := by
  obtain ⟨F, O, w, m, h⟩ := w
  exact ⟨F, O, w, m, [], O, c F O h, h, rfl⟩
theorem Own.mem : ∀ {g : List It} {O : List Addr}, Own G H F g O → ∀ p ∈ g, ∃ O1, Tr G H F p.2 p.1 O1
  | [], _, _, _, m => nomatch m
  | q :: r, _, h, p, m => by
    obtain ⟨O1, O2, h1, h2, _⟩ := h
    rcases List.mem_cons.mp m with rfl | m
    · exact ⟨O1, h1⟩
    · exact Own.mem h2 p m
theorem Cp.of {y : V} {e : D} (m : (y, e) ∈ g) (n : noOwn e = true) : Cp G H g y e := fun F O h => by
  obtain ⟨O1, t⟩ := h.mem _ m
  have e1 := t.noOwn n
  rw [e1] at t
  exact t
theorem Cp.more {y : V} {e : D} (c : Cp G H g y e) {l : List It} : Cp G H (l ++ g) y e := fun F O h => by
  obtain ⟨O1, O2, _, h2, _⟩ := Own.app.mp h
  exact c F O2 h2
theorem Cp.cons {y : V} {e : D} {q : It} (c : Cp G H g y e) : Cp G H (q :: g) y e := c.more (l := [q])
theorem Cp.triv {y : V} {e : D} (t : ∀ F, Tr G H F e y []) : Cp G H g y e := fun F _ _ => t F
theorem Cp.perm {y : V} {e : D} (c : Cp G H g y e) (q : g.Perm g') : Cp G H g' y e := fun F O h => by
  obtain ⟨O', h', _⟩ := h.perm q.symm
  exact c F O' h'
theorem W.adds : ∀ {xs : List V} {l : List D}, xs.length = l.length → (∀ (i : Nat) (x : V) (d : D), xs[i]? = some x → l[i]? = some d → Cp G H g x d) → W G B H g → W G B H (xs.zip l ++ g)
  | [], _, _, _, w => w
  | _ :: _, [], _, _, w => w
  | x :: xs, d :: l, e, c, w => by
    have w1 := W.adds (xs := xs) (l := l) (by simpa using e) (fun i y f h1 h2 => c (i + 1) y f (by simpa using h1) (by simpa using h2)) w
    exact W.add w1 ((c 0 x d rfl rfl).more)
theorem Wo.adds : ∀ {xs : List V} {l : List D}, xs.length = l.length → (∀ (i : Nat) (x : V) (d : D), xs[i]? = some x → l[i]? = some d → Cp G H g x d) → Wo G B H a g → Wo G B H a (xs.zip l ++ g)
  | [], _, _, _, w => w
  | _ :: _, [], _, _, w => w
  | x :: xs, d :: l, e, c, w => by
    have w1 := Wo.adds (xs := xs) (l := l) (by simpa using e) (fun i y f h1 h2 => c (i + 1) y f (by simpa using h1) (by simpa using h2)) w
    exact Wo.add w1 ((c 0 x d rfl rfl).more)
theorem TrL.get : ∀ {l : List D} {xs : List V} {O : List Addr}, TrL G H F l xs O → ∀ {i : Nat} {x : V} {d : D}, xs[i]? = some x → l[i]? = some d → ∃ O1, Tr G H F d x O1
  | [], _, _, _, _, _, _, _, h => by simp at h
  | e :: r, _, _, h, i, x, d, h1, h2 => by
    simp only [TrL] at h
    obtain ⟨y, ys, O1, O2, rfl, t1, t2, _⟩ := h
    cases i with
    | zero => simp at h1 h2; subst h1; subst h2; exact ⟨O1, t1⟩
    | succ i => exact TrL.get t2 (i := i) (by simpa using h1) (by simpa using h2)
/-- the children l of something that is an item -/
structure Kids (G : Cfg) (H : Hp) (g : List It) (xs : List V) (l : List D) : Prop where
  len : xs.length = l.length
  cp : ∀ (i : Nat) (x : V) (d : D), xs[i]? = some x → l[i]? = some d → noOwn d = true → Cp G H g x d
theorem Kids.of {xs : List V} {l : List D} (len : xs.length = l.length) (h : ∀ F O, Own G H F g O → ∃ O1, TrL G H F l xs O1) : Kids G H g xs l := ⟨len, fun i x d h1 h2 n F O q => by
  obtain ⟨O1, t⟩ := h F O q
  obtain ⟨O2, t2⟩ := t.get h1 h2
  have e := t2.noOwn n
  rw [e] at t2
  exact t2⟩
theorem Tr.ref_lst {o : Bool} {l : List D} {O : List Addr} (t : Tr G H F (.lst o l) v O) : ∃ a xs O1, v = .ref a ∧ H a = some (.lst xs) ∧ TrL G H F l xs O1 := by
  cases o with
  | true => simp only [Tr] at t; obtain ⟨a, xs, O', e, e1, h, _⟩ := t; exact ⟨a, xs, O', e, e1, h⟩
  | false => simp only [Tr] at t; obtain ⟨a, xs, e, e1, _, h, _⟩ := t; exact ⟨a, xs, _, e, e1, h⟩
theorem W.lst {o : Bool} {l : List D} (w : W G B H g) (m : (v, .lst o l) ∈ g) : ∃ a xs, v = .ref a ∧ H a = some (.lst xs) ∧ Kids G H g xs l := by
  obtain ⟨F, O, _, h⟩ := w
  obtain ⟨O1, t⟩ := h.mem _ m
  obtain ⟨a, xs, O2, e, e1, h2⟩ := t.ref_lst
  refine ⟨a, xs, e, e1, .of h2.len fun F' O' h' => ?_⟩
  obtain ⟨O3, t3⟩ := h'.mem _ m
  obtain ⟨b, ys, O4, e2, e3, h3⟩ := t3.ref_lst
  dsimp only at e e2
  rw [e] at e2; cases e2
  rw [e1] at e3; cases e3
  exact ⟨O4, h3⟩
theorem W.tup {l : List D} (w : W G B H g) (m : (v, .tup l) ∈ g) : ∃ a xs, v = .ref a ∧ H a = some (.tup xs) ∧ Kids G H g xs l := by
  obtain ⟨F, O, _, h⟩ := w
  obtain ⟨O1, t⟩ := h.mem _ m
  simp only [Tr] at t
  obtain ⟨a, xs, e, e1, h2⟩ := t
  refine ⟨a, xs, e, e1, .of h2.len fun F' O' h' => ?_⟩
  obtain ⟨O3, t3⟩ := h'.mem _ m
  simp only [Tr] at t3
  obtain ⟨b, ys, e2, e3, h3⟩ := t3
  rw [e] at e2; cases e2
  rw [e1] at e3; cases e3
  exact ⟨O3, h3⟩
def DRd (H : Hp) (a : Addr) (ks : KK) (xs : List V) : Prop := DHo (H a) ks xs ∨ ∃ o u, H a = some (.frz o u) ∧ DHo (some u) ks xs
theorem DHo.inj {o : Option HO} {ks : KK} {xs ys : List V} (h : DHo o ks xs) (h' : DHo o ks ys) : xs = ys := by
  rcases h with ⟨kvs, e, e1, rfl, _⟩ | ⟨kvs, e, e1, rfl, _⟩ <;> rcases h' with ⟨kvs', e', e1', rfl, _⟩ | ⟨kvs', e', e1', rfl, _⟩ <;> (rw [e] at e'; cases e') <;> rfl
theorem DRd.inj {ks : KK} {xs ys : List V} (h : DRd H a ks xs) (h' : DRd H a ks ys) : xs = ys := by
  rcases h with h | ⟨o, u, e, h⟩ <;> rcases h' with h' | ⟨o', u', e', h'⟩
  · exact h.inj h'
  · rcases h with ⟨kvs, e, _⟩ | ⟨kvs, e, _⟩ <;> (rw [e'] at e; cases e)
  · rcases h' with ⟨kvs, e', _⟩ | ⟨kvs, e', _⟩ <;> (rw [e] at e'; cases e')
  · rw [e] at e'; cases e'; exact h.inj h'
theorem Tr.ref_dct {o : Bool} {ks : KK} {l : List D} {O : List Addr} (t : Tr G H F (.dct o ks l) v O) : ∃ a xs O1, v = .ref a ∧ DRd H a ks xs ∧ TrL G H F l xs O1 := by
  cases o with
  | true => simp only [Tr] at t; obtain ⟨a, xs, O', e, e1, h, _⟩ := t; exact ⟨a, xs, O', e, .inl e1, h⟩
  | false => simp only [Tr] at t; obtain ⟨a, xs, e, e1, _, h, _⟩ := t; exact ⟨a, xs, _, e, e1, h⟩
theorem W.dct {o : Bool} {ks : KK} {l : List D} (w : W G B H g) (m : (v, .dct o ks l) ∈ g) : ∃ a xs, v = .ref a ∧ DRd H a ks xs ∧ Kids G H g xs l := by
  obtain ⟨F, O, _, h⟩ := w
  obtain ⟨O1, t⟩ := h.mem _ m
  obtain ⟨a, xs, O2, e, e1, h2⟩ := t.ref_dct
  refine ⟨a, xs, e, e1, .of h2.len fun F' O' h' => ?_⟩
  obtain ⟨O3, t3⟩ := h'.mem _ m
  obtain ⟨b, ys, O4, e2, e3, h3⟩ := t3.ref_dct
  dsimp only at e e2
  rw [e] at e2; cases e2
  rw [e1.inj e3]
  exact ⟨O4, h3⟩
theorem W.ins {o : Bool} {C : Str} {ns : List Str} {l : List D} (w : W G B H g) (m : (v, .ins o C ns l) ∈ g) : ∃ a xs, v = .ref a ∧ IHo G H a C ns xs ∧ Kids G H g xs l := by
  have key : ∀ {F O}, Tr G H F (.ins o C ns l) v O → ∃ a xs O1, v = .ref a ∧ IHo G H a C ns xs ∧ TrL G H F l xs O1 := fun {F O} t => by
    cases o with
    | true => simp only [Tr] at t; obtain ⟨a, xs, O', e, e1, h, _⟩ := t; exact ⟨a, xs, O', e, e1, h⟩
    | false => simp only [Tr] at t; obtain ⟨a, xs, e, e1, _, h, _⟩ := t; exact ⟨a, xs, _, e, e1, h⟩
  obtain ⟨F, O, _, h⟩ := w
  obtain ⟨O1, t⟩ := h.mem _ m
  obtain ⟨a, xs, O2, e, e1, h2⟩ := key t
  refine ⟨a, xs, e, e1, .of h2.len fun F' O' h' => ?_⟩
  obtain ⟨O3, t3⟩ := h'.mem _ m
  obtain ⟨b, ys, O4, e2, e3, h3⟩ := key t3
  rw [e] at e2; cases e2
  obtain ⟨dx, fs, q1, q2, q3⟩ := e1
  obtain ⟨dx', fs', q1', q2', q3'⟩ := e3
  rw [q1] at q1'; cases q1'
  rw [q3, ← q3']
  exact ⟨O4, h3⟩
/-- scalars as they stand -/
theorem W.int {i : Int} (w : W G B H g) (m : (v, .int i) ∈ g) : v = .int i := by
  obtain ⟨F, O, _, h⟩ := w
  obtain ⟨O1, t⟩ := h.mem _ m
  simp only [Tr] at t; exact t.1
theorem W.bl {i : Bool} (w : W G B H g) (m : (v, .bl i) ∈ g) : v = .bl i := by
  obtain ⟨F, O, _, h⟩ := w
  obtain ⟨O1, t⟩ := h.mem _ m
  simp only [Tr] at t; exact t.1
theorem W.str {i : Str} (w : W G B H g) (m : (v, .str i) ∈ g) : v = .str i := by
  obtain ⟨F, O, _, h⟩ := w
  obtain ⟨O1, t⟩ := h.mem _ m
  simp only [Tr] at t; exact t.1
theorem W.non (w : W G B H g) (m : (v, .non) ∈ g) : v = .non := by
  obtain ⟨F, O, _, h⟩ := w
  obtain ⟨O1, t⟩ := h.mem _ m
  simp only [Tr] at t; exact t.1

/-! ### opening and closing a node -/
theorem W.open_ (w : W G B H ((v, d) :: g)) (hd : ∀ {F O}, Tr G H F d v O → ∃ O', (∃ o, H a = some o ∧ isMut o) ∧ O = a :: O' ∧ Own G H F g' O') : Wo G B H a (g' ++ g) := by
  obtain ⟨F, O, w, O1, O2, h1, h2, e⟩ := w
  obtain ⟨O', ⟨o, ho, m⟩, e1, h3⟩ := hd h1
  subst e1
  subst e
  exact ⟨F, O' ++ O2, w, fun o' ho' => by rw [ho] at ho'; cases ho'; exact m, Own.app.mpr ⟨O', O2, h3, h2, rfl⟩⟩
theorem W.openL {l : List D} (w : W G B H ((v, .lst true l) :: g)) : ∃ a xs, v = .ref a ∧ H a = some (.lst xs) ∧ xs.length = l.length ∧ Wo G B H a (xs.zip l ++ g) := by
  obtain ⟨a, xs, e, e1, k⟩ := w.lst (List.mem_cons_self)
  refine ⟨a, xs, e, e1, k.len, w.open_ fun {F O} t => ?_⟩
  simp only [Tr] at t
  obtain ⟨b, ys, O', e2, e3, h, e4⟩ := t
  rw [e] at e2; cases e2
  rw [e1] at e3; cases e3
  exact ⟨O', ⟨_, e1, trivial⟩, e4, (Own.kids k.len).mpr h⟩
theorem W.openD {ks : KK} {l : List D} (w : W G B H ((v, .dct true ks l) :: g)) : ∃ a xs, v = .ref a ∧ DHo (H a) ks xs ∧ xs.length = l.length ∧ Wo G B H a (xs.zip l ++ g) := by
  obtain ⟨F, O, wf, O1, O2, t, h2, e0⟩ := id w
  simp only [Tr] at t
  obtain ⟨a, xs, O', e, e1, h, e2⟩ := t
  have ln := h.len
  refine ⟨a, xs, e, e1, ln, w.open_ fun {F O} t => ?_⟩
  simp only [Tr] at t
  obtain ⟨b, ys, O', e2, e3, h, e4⟩ := t
  rw [e] at e2; cases e2
  rw [← e1.inj e3] at h
  refine ⟨O', ?_, e4, (Own.kids ln).mpr h⟩
  rcases e1 with ⟨kvs, q, _⟩ | ⟨kvs, q, _⟩ <;> exact ⟨_, q, trivial⟩
theorem W.openI {C : Str} {ns : List Str} {l : List D} (w : W G B H ((v, .ins true C ns l) :: g)) : ∃ a xs, v = .ref a ∧ IHo G H a C ns xs ∧ xs.length = l.length ∧ Wo G B H a (xs.zip l ++ g) := by
  obtain ⟨F, O, wf, O1, O2, t, h2, e0⟩ := id w
  simp only [Tr] at t
  obtain ⟨a, xs, O', e, e1, h, e2⟩ := t
  have ln := h.len
  refine ⟨a, xs, e, e1, ln, w.open_ fun {F O} t => ?_⟩
  simp only [Tr] at t
  obtain ⟨b, ys, O', e2, e3, h, e4⟩ := t
  rw [e] at e2; cases e2
  obtain ⟨dx, fs, q1, q2, q3⟩ := e1
  obtain ⟨dx', fs', q1', q2', q3'⟩ := e3
  rw [q1] at q1'; cases q1'
  rw [← q3'] at q3; subst q3
  exact ⟨O', ⟨_, q1, trivial⟩, e4, (Own.kids ln).mpr h⟩
/-- a place that is free -/
theorem W.new (w : W G B H g) (hp : H p = none) : Wo G B H p g := by
  obtain ⟨F, O, w, h⟩ := w
  have np : p ∉ O := fun hm => by
    obtain ⟨o, e, _⟩ := h.own p hm
    rw [hp] at e; cases e
  refine ⟨F, O, ⟨List.nodup_cons.mpr ⟨np, w.nd⟩, fun b hb hf => ?_, w.fd, fun b hb => ?_, w.fz, w.keep, w.tbs, w.tb⟩, (fun o e => by rw [hp] at e; cases e), h⟩
  · rcases List.mem_cons.mp hb with rfl | hb
    · exact w.fd _ hf hp
    · exact w.dj b hb hf
  · rcases List.mem_cons.mp hb with rfl | hb
    · by_cases hi : b ∈ B.io
      · exact .inr hi
      · cases q : B.H b with
        | none => exact .inl rfl
        | some o => exact absurd hp (w.there q hi)
    · exact w.own b hb
/-- .. closed with another content -/
theorem Wo.close_ {o : HO} (w : Wo G B H a (g' ++ g)) (hd : ∀ {F O1}, Own G (upd H a o) F g' O1 → Tr G (upd H a o) F d v (a :: O1)) : W G B (upd H a o) ((v, d) :: g) := by
  obtain ⟨F, O, w, m, h⟩ := w
  have st : Stay [a] H (upd H a o) := ⟨fun b u e hb _ => by rw [upd_ne (fun z => hb (by simp [z]))]; exact e, fun b hb u e => by
    have : b = a := by simpa using hb
    subst this
    exact m u e⟩
  have nF : ∀ b, F b → b ∉ [a] := fun b hf hb => by
    have : b = a := by simpa using hb
    subst this
    exact w.dj b List.mem_cons_self hf
  have nO : ∀ b ∈ O, b ∉ [a] := fun b hm hb => by
    have : b = a := by simpa using hb
    subst this
    exact (List.nodup_cons.mp w.nd).1 hm
  have h' := h.stay st nF nO
  obtain ⟨O1, O2, h1, h2, e⟩ := Own.app.mp h'
  subst e
  have bne : ∀ b u, B.H b = some u → b ∉ B.io → b ≠ a := fun b u e hi => by
    rintro rfl
    rcases w.own b List.mem_cons_self with q | q
    · rw [q] at e; cases e
    · exact hi q
  refine ⟨F, a :: (O1 ++ O2), ⟨w.nd, w.dj, fun b hf => ?_, w.own, w.fz, fun b u e hi nt => ?_, fun b ps e hi => ?_, tabs_upd w.tb m⟩, a :: O1, O2, hd h1, h2, rfl⟩
  · rw [upd_ne (fun z => nF b hf (by simp [z]))]
    exact w.fd b hf
  · rw [upd_ne (bne b u e hi)]
    exact w.keep b u e hi nt
  · rw [upd_ne (bne b _ e hi)]
    exact w.tbs b ps e hi
theorem Wo.closeL {l : List D} {xs : List V} (w : Wo G B H a (xs.zip l ++ g)) (ln : xs.length = l.length) : W G B (upd H a (.lst xs)) ((.ref a, .lst true l) :: g) :=
  w.close_ fun {F O1} h => by
    simp only [Tr]
    exact ⟨a, xs, O1, rfl, upd_same, (Own.kids ln).mp h, rfl⟩
theorem Wo.closeD {ks : KK} {l : List D} {xs : List V} {o : HO} (w : Wo G B H a (xs.zip l ++ g)) (ln : xs.length = l.length) (q : DHo (some o) ks xs) : W G B (upd H a o) ((.ref a, .dct true ks l) :: g) :=
  w.close_ fun {F O1} h => by
    simp only [Tr]
    exact ⟨a, xs, O1, rfl, by rw [upd_same]; exact q, (Own.kids ln).mp h, rfl⟩
theorem Wo.closeI {C : Str} {ns : List Str} {l : List D} {xs : List V} {dx : Addr} {fs : List (Str × V)} (w : Wo G B H a (xs.zip l ++ g)) (ln : xs.length = l.length) (q1 : ns = fs.map (·.1)) (q2 : xs = fs.map (·.2)) :
    W G B (upd H a (.ins (G.cls C) dx fs)) ((.ref a, .ins true C ns l) :: g) :=
  w.close_ fun {F O1} h => by
    simp only [Tr]
    exact ⟨a, xs, O1, rfl, ⟨dx, fs, upd_same, q1, q2⟩, (Own.kids ln).mp h, rfl⟩
/-- a new tuple -/
theorem Wo.closeT {l : List D} {xs : List V} (w : Wo G B H p (xs.zip l ++ g)) (hp : H p = none) (ln : xs.length = l.length) : W G B (upd H p (.tup xs)) ((.ref p, .tup l) :: g) := by
  obtain ⟨F, O, w, m, h⟩ := w
  have st : Stay [] H (upd H p (.tup xs)) := ⟨fun b u e _ _ => by rw [upd_ne (ne_of_none e hp)]; exact e, fun b hb => nomatch hb⟩
  have h' := h.stay st (fun _ _ z => nomatch z) (fun _ _ z => nomatch z)
  obtain ⟨O1, O2, h1, h2, e⟩ := Own.app.mp h'
  have w2 := w.sub (List.sublist_cons_self p O)
  subst e
  refine ⟨F, O1 ++ O2, ⟨w2.nd, w2.dj, fun b hf => ?_, w2.own, w2.fz, fun b u e hi nt => ?_, fun b ps e hi => ?_, tabs_upd w2.tb fun u e => by rw [hp] at e; cases e⟩, O1, O2, ?_, h2, rfl⟩
  · by_cases hb : b = p
    · subst hb; rw [upd_same]; simp
    · rw [upd_ne hb]; exact w2.fd b hf
  · have := w2.keep b u e hi nt
    rw [upd_ne (ne_of_none this hp)]; exact this
  · obtain ⟨ps', this⟩ := w2.tbs b ps e hi
    exact ⟨ps', by rw [upd_ne (ne_of_none this hp)]; exact this⟩
  · simp only [Tr]
    exact ⟨p, xs, rfl, upd_same, (Own.kids ln).mp h1⟩
/-- anything else may come to stand -/
theorem W.laid {o : HO} (w : W G B H g) (hp : H p = none) : W G B (upd H p o) g := by
  obtain ⟨F, O, w, h⟩ := w
  have st : Stay [] H (upd H p o) := ⟨fun b u e _ _ => by rw [upd_ne (ne_of_none e hp)]; exact e, fun b hb => nomatch hb⟩
  refine ⟨F, O, ⟨w.nd, w.dj, fun b hf => ?_, w.own, w.fz, fun b u e hi nt => ?_, fun b ps e hi => ?_, tabs_upd w.tb fun u e => by rw [hp] at e; cases e⟩, h.stay st (fun _ _ z => nomatch z) (fun _ _ z => nomatch z)⟩
  · rw [upd_ne (fun e => w.fd b hf (by rw [e]; exact hp))]; exact w.fd b hf
  · have := w.keep b u e hi nt
    rw [upd_ne (ne_of_none this hp)]; exact this
  · obtain ⟨ps', this⟩ := w.tbs b ps e hi
    exact ⟨ps', by rw [upd_ne (ne_of_none this hp)]; exact this⟩

/-! ### a body's names -/
abbrev Rho := List (Option D)
def item : Option V → Option D → It
  | some v, some d => (v, d)
  | _, _ => (.non, .non)
def envI (σ : L2.St) (r : Rho) : List It := List.zipWith item σ r
structure Al (σ : L2.St) (r : Rho) : Prop where
  len : σ.length = r.length
  has : ∀ (i : Nat) (d : D), r[i]? = some (some d) → ∃ v, σ[i]? = some (some v)
theorem envI_len {σ : L2.St} {r : Rho} (a : Al σ r) : (envI σ r).length = r.length := by simp [envI, a.len]
theorem envI_get {σ : L2.St} {r : Rho} {i : Nat} (h1 : σ[i]? = some (some v)) (h2 : r[i]? = some (some d)) : (envI σ r)[i]? = some (v, d) := by
  simp [envI, List.getElem?_zipWith, h1, h2, item]
theorem envI_set {σ : L2.St} {r : Rho} {i : Nat} {x : Option V} {y : Option D} (a : σ.length = r.length) : envI (σ.set i x) (r.set i y) = (envI σ r).set i (item x y) := by
  unfold envI
  induction σ generalizing r i with
  | nil => cases r with
    | nil => rfl
    | cons _ _ => simp at a
  | cons s σ ih => cases r with
    | nil => simp at a
    | cons d r => cases i with
      | zero => simp
      | succ i => simp only [List.set_cons_succ, List.zipWith_cons_cons]; rw [ih (by simpa using a)]
theorem set_self_of {α : Type} {l : List α} {i : Nat} {x : α} (h : l[i]? = some x) : l.set i x = l := by
  induction l generalizing i with
  | nil => simp at h
  | cons y l ih => cases i with
    | zero => simp at h; simp [h]
    | succ i => simp only [List.set_cons_succ]; rw [ih (by simpa using h)]
theorem perm_erase {α : Type} : ∀ {l : List α} {i : Nat} {x : α}, l[i]? = some x → l.Perm (x :: l.eraseIdx i)
  | [], _, _, h => by simp at h
  | y :: l, 0, x, h => by simp at h; simp [h]
  | y :: l, i + 1, x, h => by
    simp only [List.eraseIdx_cons_succ]
    exact ((perm_erase (l := l) (i := i) (by simpa using h)).cons y).trans (.swap x y _)
theorem perm_set {α : Type} : ∀ {l : List α} {i : Nat} {x : α}, i < l.length → (l.set i x).Perm (x :: l.eraseIdx i)
  | [], _, _, h => by simp at h
  | y :: l, 0, x, h => by simp
  | y :: l, i + 1, x, h => by
    simp only [List.eraseIdx_cons_succ, List.set_cons_succ]
    exact ((perm_set (l := l) (i := i) (by simpa using h)).cons y).trans (.swap x y _)
theorem W.mid {q : It} {e : List It} (w : W G B H (e ++ g)) (pm : g.Perm (q :: g')) : W G B H (q :: (e ++ g')) :=
  (w.perm (pm.append_left e)).perm List.perm_middle
theorem W.unmid {q : It} {e : List It} (w : W G B H (q :: (e ++ g'))) (pm : g.Perm (q :: g')) : W G B H (e ++ g) :=
  (w.perm List.perm_middle.symm).perm (pm.symm.append_left e)
/-- the name's value taken out of its slot -/
theorem W.take {σ : L2.St} {r : Rho} {i : Nat} {e : List It} (w : W G B H (e ++ envI σ r)) (a : Al σ r) (h1 : σ[i]? = some (some v)) (h2 : r[i]? = some (some d)) : W G B H ((v, d) :: (e ++ envI σ (r.set i none))) := by
  have g1 := envI_get h1 h2
  have il : i < (envI σ r).length := by
    rcases Nat.lt_or_ge i (envI σ r).length with q | q
    · exact q
    · rw [List.getElem?_eq_none q] at g1; cases g1
  have w1 := w.mid (perm_erase g1)
  have es : envI σ (r.set i none) = (envI σ r).set i (.non, .non) := by
    have := envI_set (i := i) (x := some v) (y := none) a.len
    rw [set_self_of h1] at this
    exact this
  rw [es]
  have w2 : W G B H ((V.non, D.non) :: ((v, d) :: (e ++ (envI σ r).eraseIdx i))) := w1.add (Cp.triv fun F => by simp [Tr])
  have w3 := W.unmid (e := (v, d) :: e) (q := (V.non, D.non)) w2 (perm_set il)
  exact w3
/-- a value put into a slot -/
theorem W.put {σ : L2.St} {r : Rho} {i : Nat} {e : List It} (w : W G B H ((v, d) :: (e ++ envI σ r))) (a : Al σ r) (il : i < r.length) : W G B H (e ++ envI (σ.set i (some v)) (r.set i (some d))) := by
  have il' : i < (envI σ r).length := by rw [envI_len a]; exact il
  obtain ⟨q, hq⟩ : ∃ q, (envI σ r)[i]? = some q := ⟨_, List.getElem?_eq_getElem il'⟩
  have w1 := W.mid (e := (v, d) :: e) w (perm_erase hq)
  have w2 : W G B H ((v, d) :: (e ++ (envI σ r).eraseIdx i)) := w1.drop
  rw [envI_set a.len]
  exact W.unmid w2 (perm_set il')
theorem Al.set {σ : L2.St} {r : Rho} {i : Nat} {x : Option V} {y : Option D} (a : Al σ r) (h : y.isSome = true → x.isSome = true) : Al (σ.set i x) (r.set i y) := by
  refine ⟨by simp [a.len], fun j d hj => ?_⟩
  by_cases e : i = j
  · subst e
    by_cases il : i < r.length
    · rw [List.getElem?_set_self il] at hj
      cases hj
      obtain ⟨v, hv⟩ := Option.isSome_iff_exists.mp (h rfl)
      exact ⟨v, by rw [List.getElem?_set_self (by rw [a.len]; exact il), hv]⟩
    · rw [List.getElem?_eq_none (by simp; omega)] at hj; cases hj
  · rw [List.getElem?_set_ne e] at hj
    rw [List.getElem?_set_ne e]
    exact a.has j d hj
theorem Al.setR {σ : L2.St} {r : Rho} {i : Nat} {y : Option D} (a : Al σ r) (h : y.isSome = true → ∃ v, σ[i]? = some (some v)) : Al σ (r.set i y) := by
  refine ⟨by simp [a.len], fun j d hj => ?_⟩
  by_cases e : i = j
  · subst e
    by_cases il : i < r.length
    · rw [List.getElem?_set_self il] at hj
      cases hj
      exact h rfl
    · rw [List.getElem?_eq_none (by simp; omega)] at hj; cases hj
  · rw [List.getElem?_set_ne e] at hj
    exact a.has j d hj
end Z

set_option Elab.async false
set_option linter.all false
set_option maxRecDepth 100000
set_option maxHeartbeats 4000000
/-! Z2: what an evaluation yields (M), the readings that it gives (tm, tmo, tma), how they are put together. -/
namespace Z
open PySem PySem.Spec PyProof.Rows L2

theorem perm_ab {α : Type} (A B C : List α) : (A ++ (B ++ C)).Perm (B ++ (A ++ C)) := by
  rw [← List.append_assoc, ← List.append_assoc]
  exact List.perm_append_comm.append_right C
/-- an evaluation's end -/
inductive R (α : Type) where
  | ok (a : α) (r : Rho)
  | exc (C : Str) (ns : List Str) (ds : List D) (r : Rho)
abbrev M (α : Type) := Rho → Option (R α)
def ret {α : Type} (a : α) : M α := fun r => some (.ok a r)
def bnd {α β : Type} (m : M α) (f : α → M β) : M β := fun r => match m r with
  | some (.ok a r') => f a r'
  | some (.exc C ns ds r') => some (.exc C ns ds r')
  | none => none
/-- an operand: what stands in a slot, or a value of its own -/
inductive Opd where
  | v (i : Nat) | t (d : D)
abbrev Pend := List (V × Opd)
def tmps : Pend → List It
  | [] => []
  | (x, .t d) :: r => (x, d) :: tmps r
  | (_, .v _) :: r => tmps r
theorem tmps_app (a b : Pend) : tmps (a ++ b) = tmps a ++ tmps b := by
  induction a with
  | nil => rfl
  | cons p a ih => obtain ⟨x, o⟩ := p; cases o <;> simp [tmps, ih]
def Vok (σ : L2.St) (l : Pend) : Prop := ∀ x i, (x, Opd.v i) ∈ l → σ[i]? = some (some x)
theorem Vok.app {σ : L2.St} {a b : Pend} (h : Vok σ a) (k : Vok σ b) : Vok σ (a ++ b) := fun x i m => (List.mem_append.mp m).elim (h x i) (k x i)
theorem Vok.nil {σ : L2.St} : Vok σ [] := fun _ _ m => nomatch m
/-- the slot whose object the caller hands in to be changed stays what it is -/
structure Ctx where
  G : Cfg
  B : Bs
  ios : List (Nat × V)
  E : L2.St → XK
structure Alx (c : Ctx) (σ : L2.St) (r : Rho) : Prop where
  al : Al σ r
  io : ∀ p ∈ c.ios, σ[p.1]? = some (some p.2)
section
variable (c : Ctx)
def PostX (σ : L2.St) (e : List It) (C : Str) (ns : List Str) (ds : List D) (r : Rho) : Prop :=
  ∀ (vs : List V) (dx : Option Addr) (H : Hp), Alx c σ r → vs.length = ds.length → W c.G c.B H (vs.zip ds ++ (e ++ envI σ r)) → XdAt H dx ns vs → c.E σ (.ref (c.G.cls C)) dx H
def Fin (σ : L2.St) (e : List It) (Q : VK) : R D → Prop
  | .ok d r => ∀ (v : V) (H : Hp), Alx c σ r → W c.G c.B H ((v, d) :: (e ++ envI σ r)) → Q v H
  | .exc C ns ds r => PostX c σ e C ns ds r
def FinO (σ : L2.St) (e : List It) (Q : VK) : R Opd → Prop
  | .ok o r => ∀ (v : V) (H : Hp), Alx c σ r → Vok σ [(v, o)] → W c.G c.B H (tmps [(v, o)] ++ (e ++ envI σ r)) → Q v H
  | .exc C ns ds r => PostX c σ e C ns ds r
def FinA (σ : L2.St) (e : List It) (Q : List V → Hp → Prop) : R (List Opd) → Prop
  | .ok os r => ∀ (vs : List V) (H : Hp), vs.length = os.length → Alx c σ r → Vok σ (vs.zip os) → W c.G c.B H (tmps (vs.zip os) ++ (e ++ envI σ r)) → Q vs H
  | .exc C ns ds r => PostX c σ e C ns ds r
def FinB (σ : L2.St) (e : List It) (Q : Bool → Hp → Prop) : R D → Prop
  | .ok (.bl b) r => ∀ (H : Hp), Alx c σ r → W c.G c.B H (e ++ envI σ r) → Q b H
  | .ok _ _ => False
  | .exc C ns ds r => PostX c σ e C ns ds r
structure Now (σ : L2.St) (H : Hp) (l : Pend) (r : Rho) (e : List It) : Prop where
  al : Alx c σ r
  vok : Vok σ l
  w : W c.G c.B H (tmps l ++ (e ++ envI σ r))
def tk (l : Pend) (k : M D) (σ : L2.St) (H : Hp) (Q : VK) : Prop := ∃ r e x, Now c σ H l r e ∧ k r = some x ∧ Fin c σ e Q x
def tkB (l : Pend) (k : M D) (σ : L2.St) (H : Hp) (Q : Bool → Hp → Prop) : Prop := ∃ r e x, Now c σ H l r e ∧ k r = some x ∧ FinB c σ e Q x
def tkA (l : Pend) (k : M (List Opd)) (σ : L2.St) (H : Hp) (Q : List V → Hp → Prop) : Prop := ∃ r e x, Now c σ H l r e ∧ k r = some x ∧ FinA c σ e Q x
def tm (k : M D) : TE := tk c [] k
def tmB (k : M D) : TT := tkB c [] k
def tmo (k : M Opd) : TE := fun σ H Q => ∃ r e x, Now c σ H [] r e ∧ k r = some x ∧ FinO c σ e Q x
def tma (k : M (List Opd)) : TA := tkA c [] k
end
variable {c : Ctx} {σ : L2.St} {H : Hp} {l : Pend} {r : Rho} {e : List It}
theorem PostX.dropMid {e1 : List It} {C : Str} {ns : List Str} {ds : List D} (p : PostX c σ e C ns ds r) : PostX c σ (e1 ++ e) C ns ds r := fun vs dx H a hl w hd => by
  refine p vs dx H a hl ?_ hd
  have q : (vs.zip ds ++ ((e1 ++ e) ++ envI σ r)).Perm (e1 ++ (vs.zip ds ++ (e ++ envI σ r))) := by
    rw [List.append_assoc]
    exact perm_ab _ _ _
  exact W.drops (w.perm q)
/-- one more operand -/
theorem tk_bnd {mo : M Opd} {f : Opd → M D} {Q : VK} (h : tk c l (bnd mo f) σ H Q) : tmo c mo σ H fun v H1 => ∃ o, tk c ((v, o) :: l) (f o) σ H1 Q := by
  obtain ⟨r, e, x, n, hx, fin⟩ := h
  unfold bnd at hx
  cases q : mo r with
  | none => rw [q] at hx; cases hx
  | some y =>
    rw [q] at hx
    cases y with
    | ok o r1 =>
      refine ⟨r, tmps l ++ e, .ok o r1, ⟨n.al, Vok.nil, by simpa [tmps, List.append_assoc] using n.w⟩, q, ?_⟩
      intro v H1 a vk w
      refine ⟨o, r1, e, x, ⟨a, ?_, ?_⟩, hx, fin⟩
      · have vl : Vok σ l := n.vok
        exact (vk.app vl)
      · have : tmps ((v, o) :: l) = tmps [(v, o)] ++ tmps l := tmps_app [(v, o)] l
        rw [this]
        simpa [List.append_assoc] using w
    | exc C ns ds r1 =>
      cases hx
      exact ⟨r, tmps l ++ e, .exc C ns ds r1, ⟨n.al, Vok.nil, by simpa [tmps, List.append_assoc] using n.w⟩, q, PostX.dropMid fin⟩
theorem tkB_bnd {mo : M Opd} {f : Opd → M D} {Q : Bool → Hp → Prop} (h : tkB c l (bnd mo f) σ H Q) : tmo c mo σ H fun v H1 => ∃ o, tkB c ((v, o) :: l) (f o) σ H1 Q := by
  obtain ⟨r, e, x, n, hx, fin⟩ := h
  unfold bnd at hx
  cases q : mo r with
  | none => rw [q] at hx; cases hx
  | some y =>
    rw [q] at hx
    cases y with
    | ok o r1 =>
      refine ⟨r, tmps l ++ e, .ok o r1, ⟨n.al, Vok.nil, by simpa [tmps, List.append_assoc] using n.w⟩, q, ?_⟩
      intro v H1 a vk w
      refine ⟨o, r1, e, x, ⟨a, vk.app n.vok, ?_⟩, hx, fin⟩
      have : tmps ((v, o) :: l) = tmps [(v, o)] ++ tmps l := tmps_app [(v, o)] l
      rw [this]
      simpa [List.append_assoc] using w
    | exc C ns ds r1 =>
      cases hx
      exact ⟨r, tmps l ++ e, .exc C ns ds r1, ⟨n.al, Vok.nil, by simpa [tmps, List.append_assoc] using n.w⟩, q, PostX.dropMid fin⟩
theorem tkA_bnd {mo : M Opd} {f : Opd → M (List Opd)} {Q : List V → Hp → Prop} (h : tkA c l (bnd mo f) σ H Q) : tmo c mo σ H fun v H1 => ∃ o, tkA c ((v, o) :: l) (f o) σ H1 Q := by
  obtain ⟨r, e, x, n, hx, fin⟩ := h
  unfold bnd at hx
  cases q : mo r with
  | none => rw [q] at hx; cases hx
  | some y =>
    rw [q] at hx
    cases y with
    | ok o r1 =>
      refine ⟨r, tmps l ++ e, .ok o r1, ⟨n.al, Vok.nil, by simpa [tmps, List.append_assoc] using n.w⟩, q, ?_⟩
      intro v H1 a vk w
      refine ⟨o, r1, e, x, ⟨a, vk.app n.vok, ?_⟩, hx, fin⟩
      have : tmps ((v, o) :: l) = tmps [(v, o)] ++ tmps l := tmps_app [(v, o)] l
      rw [this]
      simpa [List.append_assoc] using w
    | exc C ns ds r1 =>
      cases hx
      exact ⟨r, tmps l ++ e, .exc C ns ds r1, ⟨n.al, Vok.nil, by simpa [tmps, List.append_assoc] using n.w⟩, q, PostX.dropMid fin⟩
/-- a whole list of operands -/
theorem tk_bndA {mo : M (List Opd)} {f : List Opd → M D} {Q : VK} (h : tk c l (bnd mo f) σ H Q) : tma c mo σ H fun vs H1 => ∃ os, vs.length = os.length ∧ tk c (vs.zip os ++ l) (f os) σ H1 Q := by
  obtain ⟨r, e, x, n, hx, fin⟩ := h
  unfold bnd at hx
  cases q : mo r with
  | none => rw [q] at hx; cases hx
  | some y =>
    rw [q] at hx
    cases y with
    | ok os r1 =>
      refine ⟨r, tmps l ++ e, .ok os r1, ⟨n.al, Vok.nil, by simpa [tmps, List.append_assoc] using n.w⟩, q, ?_⟩
      intro vs H1 hl a vk w
      refine ⟨os, hl, r1, e, x, ⟨a, vk.app n.vok, ?_⟩, hx, fin⟩
      rw [tmps_app]
      simpa [List.append_assoc] using w
    | exc C ns ds r1 =>
      cases hx
      exact ⟨r, tmps l ++ e, .exc C ns ds r1, ⟨n.al, Vok.nil, by simpa [tmps, List.append_assoc] using n.w⟩, q, PostX.dropMid fin⟩
/-- a value of its own as an operand -/
def mT (m : M D) : M Opd := bnd m fun d => ret (.t d)
theorem tm_mT {m : M D} {Q : VK} (h : tmo c (mT m) σ H Q) : tm c m σ H Q := by
  obtain ⟨r, e, x, n, hx, fin⟩ := h
  unfold mT bnd at hx
  cases q : m r with
  | none => rw [q] at hx; cases hx
  | some y =>
    rw [q] at hx
    cases y with
    | ok d r1 =>
      cases hx
      refine ⟨r, e, .ok d r1, n, q, fun v H1 a w => fin v H1 a (fun x i m => ?_) w⟩
      simp at m
    | exc C ns ds r1 => cases hx; exact ⟨r, e, .exc C ns ds r1, n, q, fin⟩
section
variable {X : Cx}
theorem pe_imp {ex : Expr} {t t' : TE} (h : PE X ex t) (k : ∀ σ H Q, t' σ H Q → t σ H Q) : PE X ex t' := ⟨fun pins s σ H Q I q => h.run pins s σ H Q I (k σ H Q q)⟩
theorem pt_imp {ex : Expr} {t t' : TT} (h : PT X ex t) (k : ∀ σ H Q, t' σ H Q → t σ H Q) : PT X ex t' := ⟨fun pins s σ H Q I q => h.run pins s σ H Q I (k σ H Q q)⟩
theorem pw_imp {ex : Expr} {t t' : TT} (h : PW X ex t) (k : ∀ σ H Q, t' σ H Q → t σ H Q) : PW X ex t' := ⟨fun wh pins s σ H Q I q => h.run wh pins s σ H Q I (k σ H Q q)⟩
theorem pa_imp {ex : List Expr} {t t' : TA} (h : PA X ex t) (k : ∀ σ H Q, t' σ H Q → t σ H Q) : PA X ex t' := ⟨fun pos pins s σ H Q I q => h.run pos pins s σ H Q I (k σ H Q q)⟩
theorem ps_imp {ex : Stmt} {t t' : TS} (h : PS X ex t) (k : ∀ D σ H, t' D σ H → t D σ H) : PS X ex t' := ⟨fun pins s σ H D I q => h.run pins s σ H D I (k D σ H q)⟩
theorem pss_imp {ex : List Stmt} {t t' : TS} (h : PSs X ex t) (k : ∀ D σ H, t' D σ H → t D σ H) : PSs X ex t' := ⟨fun pins s σ H D I q => h.run pins s σ H D I (k D σ H q)⟩
theorem pe_mT {ex : Expr} {m : M D} (h : PE X ex (tm c m)) : PE X ex (tmo c (mT m)) := pe_imp h fun _ _ _ q => tm_mT q
/-- .. as a test -/
theorem pt_tm {ex : Expr} {m : M D} (h : PE X ex (tm c m)) (he : ∀ whole, isTrue ex X.env whole = (do let v ← whole; standAt ex.pos; holding [v] (truthy v))) : PT X ex (tmB c m) := by
  refine pt_imp (pt_val h he) fun σ H Q h => ?_
  obtain ⟨r, e, x, n, hx, fin⟩ := h
  refine ⟨r, e, x, n, hx, ?_⟩
  cases x with
  | exc C ns ds r1 => exact fin
  | ok d r1 =>
    cases d with
    | bl b =>
      intro v H1 a w
      have ev := w.bl (List.mem_cons_self)
      exact ⟨b, ev, fin H1 a w.drop⟩
    | _ => exact False.elim fin
end
/-- the data of an operand as it stands -/
def opdD (r : Rho) : Opd → Option D
  | .t d => some d
  | .v i => (r[i]?).join
def opdDs (r : Rho) : List Opd → Option (List D)
  | [] => some []
  | o :: os => match opdD r o, opdDs r os with
    | some d, some ds => some (d :: ds)
    | _, _ => none
def kn : D → Bool
  | .tup l => noOwns l
  | .lst _ l => noOwns l
  | .dct _ _ l => noOwns l
  | .ins _ _ _ l => noOwns l
  | _ => true
/-- f of the operands' data; kids: what comes may hold parts of them, so none of these may be owned -/
def opc (kids : Bool) (f : List D → Option D) (os : List Opd) : M D := fun r => match opdDs r os with
  | some ds => if (!kids || ds.all kn) = true then (match f ds with
    | some d => some (.ok d r)
    | none => none) else none
  | none => none
/-- f is what the rule r asks -/
def OpZ (kids : Bool) (G : Cfg) (rl : List V → Hp → VK → Prop) (f : List D → Option D) : Prop :=
  ∀ (B : Bs) (H : Hp) (g : List It) (vs : List V) (ds : List D) (d : D) (Q : VK), W G B H g → vs.length = ds.length → (∀ p ∈ vs.zip ds, p ∈ g) → (kids = true → ∀ x ∈ ds, kn x = true) → f ds = some d →
    (∀ v H', W G B H' ((v, d) :: g) → Q v H') → rl vs H Q
theorem opd_mem (n : Now c σ H l r e) {x : V} {o : Opd} {d : D} (m : (x, o) ∈ l) (h : opdD r o = some d) : (x, d) ∈ tmps l ++ (e ++ envI σ r) := by
  cases o with
  | t d' =>
    cases h
    refine List.mem_append_left _ ?_
    clear n
    induction l with
    | nil => cases m
    | cons p l ih =>
      obtain ⟨y, o⟩ := p
      rcases List.mem_cons.mp m with q | q
      · cases q; exact List.mem_cons_self
      · cases o with
        | t _ => exact List.mem_cons_of_mem _ (ih q)
        | v _ => exact ih q
  | v i =>
    have h1 := n.vok x i m
    have h2 : r[i]? = some (some d) := by
      have h' : (r[i]?).join = some d := h
      cases q : r[i]? with
      | none => rw [q] at h'; cases h'
      | some y => rw [q] at h'; rw [show y = some d from h']
    exact List.mem_append_right _ (List.mem_append_right _ (List.mem_of_getElem? (envI_get h1 h2)))
theorem opdDs_len : ∀ {os : List Opd} {ds : List D}, opdDs r os = some ds → ds.length = os.length
  | [], ds, h => by cases h; rfl
  | o :: os, ds, h => by
    unfold opdDs at h
    split at h
    · cases h; rename_i h1 h2; simp [opdDs_len h2]
    · cases h
theorem opds_mem (n : Now c σ H l r e) : ∀ {vs : List V} {os : List Opd} {ds : List D}, vs.length = os.length → (∀ p ∈ vs.zip os, p ∈ l) → opdDs r os = some ds → ∀ p ∈ vs.zip ds, p ∈ tmps l ++ (e ++ envI σ r)
  | [], _, _, _, _, _, p, m => by simp at m
  | v :: vs, [], _, h, _, _, _, _ => by simp at h
  | v :: vs, o :: os, ds, hl, hm, h, p, m => by
    unfold opdDs at h
    split at h
    · rename_i d ds' h1 h2
      cases h
      rcases List.mem_cons.mp m with q | q
      · subst q; exact opd_mem n (hm _ List.mem_cons_self) h1
      · exact opds_mem n (by simpa using hl) (fun q hq => hm q (List.mem_cons_of_mem _ hq)) h2 p q
    · cases h
theorem tk_opc {kids : Bool} {f : List D → Option D} {rl : List V → Hp → VK → Prop} {vs : List V} {os : List Opd} {Q : VK} (hf : OpZ kids c.G rl f) (hl : vs.length = os.length) (hm : ∀ p ∈ vs.zip os, p ∈ l) (h : tk c l (opc kids f os) σ H Q) : rl vs H Q := by
  obtain ⟨r, e, x, n, hx, fin⟩ := h
  unfold opc at hx
  split at hx
  · rename_i ds hd
    split at hx
    · rename_i hk
      split at hx
      · rename_i d hfd
        cases hx
        refine hf c.B H _ vs ds d Q n.w (by rw [hl, opdDs_len hd]) (opds_mem n hl hm hd) (fun ek x hx => ?_) hfd fun v H' w => fin v H' n.al ?_
        · rw [ek] at hk
          exact List.all_eq_true.mp (by simpa using hk) x hx
        · have q : ((v, d) :: (tmps l ++ (e ++ envI σ r))).Perm (tmps l ++ ((v, d) :: (e ++ envI σ r))) := List.perm_middle.symm
          exact W.drops (w.perm q)
      · cases hx
    · cases hx
  · cases hx
theorem tkB_opc {kids : Bool} {f : List D → Option D} {rl : List V → Hp → VK → Prop} {vs : List V} {os : List Opd} {Q : Bool → Hp → Prop} (hf : OpZ kids c.G rl f) (hl : vs.length = os.length) (hm : ∀ p ∈ vs.zip os, p ∈ l) (h : tkB c l (opc kids f os) σ H Q) :
    rl vs H fun v H' => ∃ b, v = .bl b ∧ Q b H' := by
  obtain ⟨r, e, x, n, hx, fin⟩ := h
  refine tk_opc hf hl hm ⟨r, e, x, n, hx, ?_⟩
  cases x with
  | exc C ns ds r1 => exact fin
  | ok d r1 =>
    cases d with
    | bl b => exact fun v H1 a w => ⟨b, w.bl List.mem_cons_self, fin H1 a w.drop⟩
    | _ => exact False.elim fin
/-- a slot's value as an operand; parts: it may be held -/
def slotO (kids : Bool) (i : Nat) : M Opd := fun r => match r[i]? with
  | some (some d) => if (!kids || kn d) = true then some (.ok (.v i) r) else some (.ok (.v i) (r.set i (some (freeze d))))
  | _ => none
/-- a value of its own as an operand whose parts may be held -/
def knT (d : D) : D := if kn d = true then d else freeze d
def mK (m : M D) : M Opd := bnd m fun d => ret (.t (knT d))
theorem W.knT {B : Bs} {G : Cfg} {v : V} {d : D} {g : List It} (w : W G B H ((v, d) :: g)) : W G B H ((v, knT d) :: g) := by
  unfold Z.knT
  split
  · exact w
  · exact w.fz
theorem tm_mK {m : M D} {Q : VK} (h : tmo c (mK m) σ H Q) : tm c m σ H Q := by
  obtain ⟨r, e, x, n, hx, fin⟩ := h
  unfold mK bnd at hx
  cases q : m r with
  | none => rw [q] at hx; cases hx
  | some y =>
    rw [q] at hx
    cases y with
    | ok d r1 =>
      cases hx
      refine ⟨r, e, .ok d r1, n, q, fun v H1 a w => fin v H1 a (fun x i m => ?_) ?_⟩
      · simp at m
      · exact W.knT w
    | exc C ns ds r1 => cases hx; exact ⟨r, e, .exc C ns ds r1, n, q, fin⟩
theorem pe_mK {X : Cx} {ex : Expr} {m : M D} (h : PE X ex (tm c m)) : PE X ex (tmo c (mK m)) := pe_imp h fun _ _ _ q => tm_mK q
theorem Alx.setR {i : Nat} {d : D} {v : V} (a : Alx c σ r) (h1 : σ[i]? = some (some v)) : Alx c σ (r.set i (some d)) := ⟨a.al.setR fun _ => ⟨v, h1⟩, a.io⟩
/-- a slot's value frozen where it stands -/
theorem W.fzSlot {G : Cfg} {B : Bs} {i : Nat} {v : V} {d : D} (w : W G B H (e ++ envI σ r)) (a : Al σ r) (h1 : σ[i]? = some (some v)) (h2 : r[i]? = some (some d)) : W G B H (e ++ envI σ (r.set i (some (freeze d)))) := by
  have il : i < r.length := by
    rcases Nat.lt_or_ge i r.length with q | q
    · exact q
    · rw [List.getElem?_eq_none q] at h2; cases h2
  have w1 := (w.take a h1 h2).fz
  have w2 := w1.put (i := i) (a.setR fun z => by cases z) (by simpa using il)
  rw [set_self_of h1, List.set_set] at w2
  exact w2
theorem slot_has {i : Nat} {d : D} (a : Al σ r) (h2 : r[i]? = some (some d)) : ∃ v, σ[i]? = some (some v) := a.has i d h2
theorem pe_slotO {X : Cx} {i : Nat} {x : Str} {pos : Pos} {kids : Bool} (h : PE X (.Name x pos) (tVar i)) : PE X (.Name x pos) (tmo c (slotO kids i)) := by
  refine pe_imp h fun σ H Q h => ?_
  obtain ⟨r, e, y, n, hx, fin⟩ := h
  unfold slotO at hx
  split at hx
  · rename_i d hd
    obtain ⟨v, hv⟩ := slot_has n.al.al hd
    have vk : Vok σ [(v, Opd.v i)] := fun y j m => by
      simp at m
      obtain ⟨rfl, rfl⟩ := m
      exact hv
    refine ⟨v, hv, ?_⟩
    have w0 : W c.G c.B H (e ++ envI σ r) := n.w
    split at hx
    · cases hx
      exact fin v H n.al vk w0
    · cases hx
      exact fin v H (n.al.setR hv) vk (w0.fzSlot n.al.al hv hd)
  · cases hx
/-- a slot's value handed on: frozen where it can change -/
def slotE (i : Nat) : M D := fun r => match r[i]? with
  | some (some d) => if noOwn d = true then some (.ok d r) else some (.ok (freeze d) (r.set i (some (freeze d))))
  | _ => none
theorem pe_slotE {X : Cx} {i : Nat} {x : Str} {pos : Pos} (h : PE X (.Name x pos) (tVar i)) : PE X (.Name x pos) (tm c (slotE i)) := by
  refine pe_imp h fun σ H Q h => ?_
  obtain ⟨r, e, y, n, hx, fin⟩ := h
  unfold slotE at hx
  split at hx
  · rename_i d hd
    obtain ⟨v, hv⟩ := slot_has n.al.al hd
    refine ⟨v, hv, ?_⟩
    have w0 : W c.G c.B H (e ++ envI σ r) := n.w
    split at hx
    · rename_i hn
      cases hx
      refine fin v H n.al (w0.add (Cp.of ?_ hn))
      exact List.mem_append_right _ (List.mem_of_getElem? (envI_get hv hd))
    · cases hx
      have w1 := w0.fzSlot n.al.al hv hd
      refine fin v H (n.al.setR hv) (w1.add (Cp.of ?_ (noOwn_freeze d)))
      have il : i < r.length := by
        rcases Nat.lt_or_ge i r.length with q | q
        · exact q
        · rw [List.getElem?_eq_none q] at hd; cases hd
      exact List.mem_append_right _ (List.mem_of_getElem? (envI_get (d := freeze d) hv (by rw [List.getElem?_set_self il])))
  · cases hx
/-- a written value -/
theorem pe_cst {X : Cx} {ex : Expr} {v : V} {d : D} (h : PE X ex (tC v)) (t : ∀ (G : Cfg) (H : Hp) (F : Addr → Prop), Tr G H F d v []) : PE X ex (tm c (ret d)) := by
  refine pe_imp h fun σ H Q h => ?_
  obtain ⟨r, e, y, n, hx, fin⟩ := h
  cases hx
  have w0 : W c.G c.B H (e ++ envI σ r) := n.w
  exact fin v H n.al (w0.add (Cp.triv fun F => t _ _ _))
/-- operands one behind the other -/
def consM (m : M Opd) (ms : M (List Opd)) : M (List Opd) := bnd m fun o => bnd ms fun os => ret (o :: os)
theorem pa_nilM {X : Cx} : PA X [] (tma c (ret [])) := by
  refine pa_imp pa_nil fun σ H Q h => ?_
  obtain ⟨r, e, y, n, hx, fin⟩ := h
  cases hx
  exact fin [] H rfl n.al Vok.nil n.w
theorem pa_consM {X : Cx} {ex : Expr} {es : List Expr} {m : M Opd} {ms : M (List Opd)} (h : PE X ex (tmo c m)) (hs : PA X es (tma c ms)) (st : starEach (ex :: es) X.env = (false, eval ex X.env) :: starEach es X.env) : PA X (ex :: es) (tma c (consM m ms)) := by
  refine pa_imp (pa_cons h hs st) fun σ H Q h => ?_
  have h1 := tkA_bnd h
  obtain ⟨r, e, x, n, hx, fin⟩ := h1
  refine ⟨r, e, x, n, hx, ?_⟩
  cases x with
  | exc C ns ds r1 => exact fin
  | ok o r1 =>
    intro v H1 a vk w
    obtain ⟨o', h2⟩ := fin v H1 a vk w
    obtain ⟨r2, e2, x2, n2, hx2, fin2⟩ := h2
    unfold bnd at hx2
    cases q : ms r2 with
    | none => rw [q] at hx2; cases hx2
    | some y =>
      rw [q] at hx2
      cases y with
      | exc C ns ds r3 =>
        cases hx2
        exact ⟨r2, tmps [(v, o')] ++ e2, .exc C ns ds r3, ⟨n2.al, Vok.nil, by simpa [tmps, List.append_assoc] using n2.w⟩, q, PostX.dropMid fin2⟩
      | ok os r3 =>
        cases hx2
        refine ⟨r2, tmps [(v, o')] ++ e2, .ok os r3, ⟨n2.al, Vok.nil, by simpa [tmps, List.append_assoc] using n2.w⟩, q, ?_⟩
        intro vs H3 hl a3 vk3 w3
        refine fin2 (v :: vs) H3 (by simp [hl]) a3 ?_ ?_
        · exact Vok.app (a := [(v, o')]) n2.vok vk3
        · have e1 : tmps ((v :: vs).zip (o' :: os)) = tmps [(v, o')] ++ tmps (vs.zip os) := tmps_app [(v, o')] (vs.zip os)
          rw [e1]
          refine W.perm w3 ?_
          rw [List.append_assoc, List.append_assoc]
          exact perm_ab _ _ _
end Z

set_option Elab.async false
set_option linter.all false
set_option maxRecDepth 100000
set_option maxHeartbeats 4000000
/-! Z3: operations on data, each over the rule of the layer. -/
namespace Z
open PySem PySem.Spec PyProof.Rows L2

/-- the reading of an operation f by what stands -/
def rZ (kids : Bool) (G : Cfg) (f : List D → Option D) (vs : List V) : Hp → VK → Prop := fun H Q =>
  ∃ B g ds d, W G B H g ∧ vs.length = ds.length ∧ (∀ p ∈ vs.zip ds, p ∈ g) ∧ (kids = true → ∀ x ∈ ds, kn x = true) ∧ f ds = some d ∧ ∀ v H', W G B H' ((v, d) :: g) → Q v H'
theorem opZ_rZ {kids : Bool} {G : Cfg} {f : List D → Option D} : OpZ kids G (rZ kids G f) f := fun B H g vs ds d Q w hl hm hk hf q => ⟨B, g, ds, d, w, hl, hm, hk, hf, q⟩

variable {G : Cfg} {B : Bs} {H : Hp} {g : List It} {p a : Addr} {v : V} {d : D}
/-- children that may be held elsewhere -/
structure KC (G : Cfg) (H : Hp) (g : List It) (xs : List V) (l : List D) : Prop where
  len : xs.length = l.length
  cp : ∀ (i : Nat) (x : V) (d : D), xs[i]? = some x → l[i]? = some d → Cp G H g x d
theorem noOwns_get {l : List D} {i : Nat} (n : noOwns l = true) (h : l[i]? = some d) : noOwn d = true := by
  rw [noOwns_all] at n
  exact List.all_eq_true.mp n d (List.mem_of_getElem? h)
theorem Kids.kc {xs : List V} {l : List D} (k : Kids G H g xs l) (n : noOwns l = true) : KC G H g xs l := ⟨k.len, fun i x d h1 h2 => k.cp i x d h1 h2 (noOwns_get n h2)⟩
theorem KC.nil : KC G H g [] [] := ⟨rfl, fun i x d h => by simp at h⟩
theorem KC.cons {x : V} {d : D} {xs : List V} {l : List D} (c : Cp G H g x d) (k : KC G H g xs l) : KC G H g (x :: xs) (d :: l) := ⟨by simp [k.len], fun i y e h1 h2 => by
  cases i with
  | zero => simp at h1 h2; subst h1; subst h2; exact c
  | succ i => exact k.cp i y e (by simpa using h1) (by simpa using h2)⟩
theorem KC.app {xs ys : List V} {l m : List D} (a : KC G H g xs l) (b : KC G H g ys m) : KC G H g (xs ++ ys) (l ++ m) := ⟨by simp [a.len, b.len], fun i x d h1 h2 => by
  by_cases h : i < xs.length
  · rw [List.getElem?_append_left h] at h1
    rw [List.getElem?_append_left (by rw [← a.len]; exact h)] at h2
    exact a.cp i x d h1 h2
  · rw [List.getElem?_append_right (by omega)] at h1
    rw [List.getElem?_append_right (by rw [← a.len]; omega), ← a.len] at h2
    exact b.cp _ x d h1 h2⟩
theorem KC.take {xs : List V} {l : List D} (n : Nat) (k : KC G H g xs l) : KC G H g (xs.take n) (l.take n) := ⟨by simp [k.len], fun i x d h1 h2 => by
  by_cases h : i < n
  · rw [List.getElem?_take_of_lt h] at h1 h2
    exact k.cp i x d h1 h2
  · rw [List.getElem?_take_eq_none (by omega)] at h1; cases h1⟩
theorem KC.drop {xs : List V} {l : List D} (n : Nat) (k : KC G H g xs l) : KC G H g (xs.drop n) (l.drop n) := ⟨by simp [k.len], fun i x d h1 h2 => by
  rw [List.getElem?_drop] at h1 h2
  exact k.cp _ x d h1 h2⟩
theorem KC.reverse {xs : List V} {l : List D} (k : KC G H g xs l) : KC G H g xs.reverse l.reverse := ⟨by simp [k.len], fun i x d h1 h2 => by
  have hi : i < xs.length := by
    rcases Nat.lt_or_ge i xs.length with q | q
    · exact q
    · rw [List.getElem?_eq_none (by simpa using q)] at h1; cases h1
  rw [List.getElem?_reverse hi] at h1
  rw [List.getElem?_reverse (by rw [← k.len]; exact hi), ← k.len] at h2
  exact k.cp _ x d h1 h2⟩
def cutD (l : List D) (lo hi : Option Int) : List D := (l.drop (HT.sIx l.length 0 lo)).take (HT.sIx l.length l.length hi - HT.sIx l.length 0 lo)
theorem KC.cut {xs : List V} {l : List D} (lo hi : Option Int) (k : KC G H g xs l) : KC G H g (cutV xs lo hi) (cutD l lo hi) := by
  unfold cutV cutD
  rw [k.len]
  exact (k.drop _).take _
theorem newL {xs : List V} {l : List D} (w : W G B H g) (hp : H p = none) (k : KC G H g xs l) : W G B (upd H p (.lst xs)) ((.ref p, .lst true l) :: g) :=
  ((w.new hp).adds k.len k.cp).closeL k.len
theorem newT {xs : List V} {l : List D} (w : W G B H g) (hp : H p = none) (k : KC G H g xs l) : W G B (upd H p (.tup xs)) ((.ref p, .tup l) :: g) :=
  ((w.new hp).adds k.len k.cp).closeT hp k.len
theorem mem2 {x y : V} {d e : D} (h : ∀ p ∈ [x, y].zip [d, e], p ∈ g) : (x, d) ∈ g ∧ (y, e) ∈ g := ⟨h _ (by simp), h _ (by simp)⟩
theorem mem1 {x : V} {d : D} (h : ∀ p ∈ [x].zip [d], p ∈ g) : (x, d) ∈ g := h _ (by simp)
theorem len2 {α : Type} {l : List α} {x y : V} (h : [x, y].length = l.length) : ∃ d e, l = [d, e] := by
  match l, h with
  | [d, e], _ => exact ⟨d, e, rfl⟩
theorem len1 {α : Type} {l : List α} {x : V} (h : [x].length = l.length) : ∃ d, l = [d] := by
  match l, h with
  | [d], _ => exact ⟨d, rfl⟩
theorem kn2 {d e : D} (h : ∀ x ∈ [d, e], kn x = true) : kn d = true ∧ kn e = true := ⟨h _ (by simp), h _ (by simp)⟩

/-- the size up to which texts and lists are made -/
theorem lim_ok {n : Nat} (h : n ≤ 10000000) : n ≤ sizeLine := by rw [sizeLine_eq]; omega
def addS : List D → Option D
  | [.int i, .int j] => some (.int (i + j))
  | [.str s, .str t] => if s.length + t.length ≤ 10000000 then some (.str (s ++ t)) else none
  | [.lst _ a, .lst _ b] => if a.length + b.length ≤ 10000000 then some (.lst true (a ++ b)) else none
  | [.tup a, .tup b] => if a.length + b.length ≤ 10000000 then some (.tup (a ++ b)) else none
  | _ => none
section
variable {X : Cx} {Q : VK}
theorem W.scal (w : W G B H g) (q : ∀ v H', W G B H' ((v, d) :: g) → Q v H') (t : ∀ F, Tr G H F d v []) : Q v H := q v H (w.add (Cp.triv t))
theorem add_ok (hG : G.K = X.K) : OpR X (binaryOp .Add) (fun x y => rZ true G addS [x, y]) := by
  intro pins s σ H x y v u Q I rx ry h
  obtain ⟨B, g, ds, d, w, hl, hm, hk, hf, q⟩ := h
  obtain ⟨d1, d2, rfl⟩ := len2 hl
  obtain ⟨m1, m2⟩ := mem2 hm
  obtain ⟨k1, k2⟩ := kn2 (hk rfl)
  unfold addS at hf
  split at hf
  · rename_i i j e
    cases e
    cases hf
    exact op_add pins s σ H x y v u Q I rx ry ⟨i, j, w.int m1, w.int m2, w.scal q fun F => by simp [Tr]⟩
  · rename_i i j e
    cases e
    split at hf
    · rename_i hz
      cases hf
      exact op_add_str pins s σ H x y v u Q I rx ry ⟨i, j, w.str m1, w.str m2, lim_ok hz, w.scal q fun F => by simp [Tr]⟩
    · cases hf
  · rename_i o1 a o2 b e
    cases e
    split at hf
    · rename_i hz
      cases hf
      obtain ⟨l1, xs, e1, h1, c1⟩ := w.lst m1
      obtain ⟨l2, ys, e2, h2, c2⟩ := w.lst m2
      refine op_cat pins s σ H x y v u Q I rx ry ⟨l1, l2, xs, ys, e1, e2, h1, h2, lim_ok (by rw [c1.len, c2.len]; exact hz), fun p hp => q _ _ (newL w hp ((c1.kc k1).app (c2.kc k2)))⟩
    · cases hf
  · rename_i a b e
    cases e
    split at hf
    · rename_i hz
      cases hf
      obtain ⟨l1, xs, e1, h1, c1⟩ := w.tup m1
      obtain ⟨l2, ys, e2, h2, c2⟩ := w.tup m2
      have n1 : Z.noOwn (.tup a) = true := k1
      have n2 : Z.noOwn (.tup b) = true := k2
      refine op_catA pins s σ H x y v u Q I rx ry ⟨l1, l2, xs, ys, e1, e2, SqT.of h1, SqT.of h2, lim_ok (by rw [c1.len, c2.len]; exact hz), fun z => ?_, fun _ z => ?_, fun _ _ p hp => q _ _ (newT w hp ((c1.kc k1).app (c2.kc k2)))⟩
      · have : a = [] := List.eq_nil_of_length_eq_zero (by rw [← c1.len, z]; rfl)
        subst this
        rw [← e2]
        exact q _ _ (w.add (Cp.of m2 n2))
      · have : b = [] := List.eq_nil_of_length_eq_zero (by rw [← c2.len, z]; rfl)
        subst this
        rw [← e1]
        exact q _ _ (w.add (Cp.of (by simpa using m1) (by simpa using n1)))
    · cases hf
  · cases hf
def subS : List D → Option D
  | [.int i, .int j] => some (.int (i - j))
  | _ => none
theorem sub_ok : OpR X (binaryOp .Sub) (fun x y => rZ false G subS [x, y]) := by
  intro pins s σ H x y v u Q I rx ry h
  obtain ⟨B, g, ds, d, w, hl, hm, hk, hf, q⟩ := h
  obtain ⟨d1, d2, rfl⟩ := len2 hl
  obtain ⟨m1, m2⟩ := mem2 hm
  unfold subS at hf
  split at hf
  · rename_i i j e
    cases e
    cases hf
    exact op_sub pins s σ H x y v u Q I rx ry ⟨i, j, w.int m1, w.int m2, w.scal q fun F => by simp [Tr]⟩
  · cases hf
/-- a text n times over -/
def repS (x : Str) (n : Int) : Str := Txt.mul x n
def mulS : List D → Option D
  | [.int i, .int j] => if i.natAbs < 18446744073709551616 ∨ j.natAbs < 18446744073709551616 then some (.int (i * j)) else none
  | [.str s, .int n] => if s.length ≤ 16 ∧ 0 ≤ n ∧ n ≤ 1000 then some (.str (repS s n)) else none
  | [.lst _ l, .int n] => if l.length ≤ 1000 ∧ 0 ≤ n ∧ n ≤ 1000 then some (.lst true (List.replicate n.toNat l).flatten) else none
  | _ => none
theorem len_rep {l : List D} {xs : List V} (h : KC G H g xs l) : ∀ n : Nat, KC G H g (List.replicate n xs).flatten (List.replicate n l).flatten
  | 0 => KC.nil
  | n + 1 => by
    rw [List.replicate_succ, List.replicate_succ, List.flatten_cons, List.flatten_cons]
    exact h.app (len_rep h n)
theorem mul_ok : OpR X (binaryOp .Mult) (fun x y => rZ true G mulS [x, y]) := by
  intro pins s σ H x y v u Q I rx ry h
  obtain ⟨B, g, ds, d, w, hl, hm, hk, hf, q⟩ := h
  obtain ⟨d1, d2, rfl⟩ := len2 hl
  obtain ⟨m1, m2⟩ := mem2 hm
  obtain ⟨k1, k2⟩ := kn2 (hk rfl)
  unfold mulS at hf
  split at hf
  · rename_i i j e
    cases e
    split at hf
    · rename_i hc
      cases hf
      exact op_mul pins s σ H x y v u Q I rx ry ⟨i, j, w.int m1, w.int m2, hc.imp (fun z => by omega) (fun z => by omega), w.scal q fun F => by simp [Tr]⟩
    · cases hf
  · rename_i z n e
    cases e
    split at hf
    · rename_i hc
      cases hf
      have e1 := w.str m1
      have e2 := w.int m2
      subst e1 e2
      obtain ⟨t, rfl⟩ := rx
      obtain ⟨t', rfl⟩ := ry
      refine PySem.W.KXi.mul (n := z.length) rfl hc.1 (by omega) (by omega) fun t2 k _ _ => ?_
      exact ⟨.str (Txt.mul z n), H, I.tok k, ⟨t2, rfl⟩, w.scal q fun F => by simp [Tr, repS]⟩
    · cases hf
  · rename_i o l n e
    cases e
    split at hf
    · rename_i hc
      cases hf
      obtain ⟨l1, xs, e1, h1, c1⟩ := w.lst m1
      refine op_rep pins s σ H x y v u Q I rx ry ⟨l1, n, xs, e1, w.int m2, h1, by omega, by omega, ?_, fun p hp => q _ _ (newL w hp (len_rep (c1.kc k1) _))⟩
      have a1 : xs.length ≤ 1000 := by rw [c1.len]; exact hc.1
      have a2 : n.toNat ≤ 1000 := by omega
      have := Nat.mul_le_mul a1 a2
      exact lim_ok (by omega)
    · cases hf
  · cases hf
def fdivS : List D → Option D
  | [.int i, .int j] => if 0 < j ∧ j < 1073741824 then some (.int (i / j)) else none
  | _ => none
theorem fdiv_ok : OpR X (binaryOp .FloorDiv) (fun x y => rZ false G fdivS [x, y]) := by
  intro pins s σ H x y v u Q I rx ry h
  obtain ⟨B, g, ds, d, w, hl, hm, hk, hf, q⟩ := h
  obtain ⟨d1, d2, rfl⟩ := len2 hl
  obtain ⟨m1, m2⟩ := mem2 hm
  unfold fdivS at hf
  split at hf
  · rename_i i j e
    cases e
    split at hf
    · rename_i hc
      cases hf
      exact op_fdiv pins s σ H x y v u Q I rx ry ⟨i, j, w.int m1, w.int m2, hc, w.scal q fun F => by simp [Tr]⟩
    · cases hf
  · cases hf
def modS : List D → Option D
  | [.int i, .int j] => if 0 < j then some (.int (i % j)) else none
  | _ => none
theorem mod_ok : OpR X (binaryOp .Mod) (fun x y => rZ false G modS [x, y]) := by
  intro pins s σ H x y v u Q I rx ry h
  obtain ⟨B, g, ds, d, w, hl, hm, hk, hf, q⟩ := h
  obtain ⟨d1, d2, rfl⟩ := len2 hl
  obtain ⟨m1, m2⟩ := mem2 hm
  unfold modS at hf
  split at hf
  · rename_i i j e
    cases e
    split at hf
    · rename_i hc
      cases hf
      exact op_mod pins s σ H x y v u Q I rx ry ⟨i, j, w.int m1, w.int m2, hc, w.scal q fun F => by simp [Tr]⟩
    · cases hf
  · cases hf
def powS : List D → Option D
  | [.int i, .int j] => if 0 ≤ j ∧ j ≤ 100 ∧ i.natAbs < 18446744073709551616 then some (.int (i ^ j.toNat)) else none
  | _ => none
theorem pow_ok : OpR X (binaryOp .Pow) (fun x y => rZ false G powS [x, y]) := by
  intro pins s σ H x y v u Q I rx ry h
  obtain ⟨B, g, ds, d, w, hl, hm, hk, hf, q⟩ := h
  obtain ⟨d1, d2, rfl⟩ := len2 hl
  obtain ⟨m1, m2⟩ := mem2 hm
  unfold powS at hf
  split at hf
  · rename_i i j e
    cases e
    split at hf
    · rename_i hc
      cases hf
      exact op_pow pins s σ H x y v u Q I rx ry ⟨i, j, w.int m1, w.int m2, ⟨hc.1, by omega, by omega⟩, w.scal q fun F => by simp [Tr]⟩
    · cases hf
  · cases hf
def negS : List D → Option D
  | [.int i] => some (.int (-i))
  | _ => none
theorem neg_ok : UnR X (unaryOp .USub) (fun x => rZ false G negS [x]) := by
  intro pins s σ H x v Q I rx h
  obtain ⟨B, g, ds, d, w, hl, hm, hk, hf, q⟩ := h
  obtain ⟨d1, rfl⟩ := len1 hl
  have m1 := mem1 hm
  unfold negS at hf
  split at hf
  · rename_i i e
    cases e
    cases hf
    exact un_neg pins s σ H x v Q I rx ⟨i, w.int m1, w.scal q fun F => by simp [Tr]⟩
  · cases hf
end

/-! ### data of any depth -/
mutual
def py : D → PyData
  | .non => .none
  | .bl b => .bool b
  | .int i => .int i
  | .str s => .str s
  | .tup l => .tuple (pys l)
  | .lst _ l => .list (pys l)
  | .dct _ _ _ | .ins _ _ _ _ | .scr _ | .ty _ | .cls _ | .xcp _ _ _ => .none
def pys : List D → List PyData
  | [] => []
  | d :: r => py d :: pys r
end
theorem pys_map (l : List D) : pys l = l.map py := by
  induction l with
  | nil => rfl
  | cons d r ih => simp only [pys, List.map_cons, ih]
mutual
/-- no dict, no instance; n deep at most -/
def pl : Nat → D → Bool
  | _, .non | _, .bl _ | _, .int _ | _, .str _ => true
  | n + 1, .tup l => pls n l
  | n + 1, .lst _ l => pls n l
  | _, _ => false
def pls : Nat → List D → Bool
  | _, [] => true
  | n, d :: r => pl n d && pls n r
end
theorem pls_all (n : Nat) (l : List D) : pls n l = l.all (pl n) := by
  induction l with
  | nil => simp [pls]
  | cons d r ih => simp only [pls, List.all_cons, ih]
mutual
theorem pl_plain : ∀ {n : Nat} {d : D}, pl n d = true → (py d).plain = true ∧ (py d).depth ≤ n
  | _, .non, _ => ⟨rfl, Nat.zero_le _⟩
  | _, .bl _, _ => ⟨rfl, Nat.zero_le _⟩
  | _, .int _, _ => ⟨rfl, Nat.zero_le _⟩
  | _, .str _, _ => ⟨rfl, Nat.zero_le _⟩
  | n + 1, .tup l, h => by
    have h' : pls n l = true := by simpa [pl] using h
    obtain ⟨a, b⟩ := pls_plain h'
    refine ⟨by simpa [py, PyData.plain] using a, ?_⟩
    show PyData.depth (.tuple (pys l)) ≤ n + 1
    simp only [PyData.depth]
    omega
  | n + 1, .lst o l, h => by
    have h' : pls n l = true := by simpa [pl] using h
    obtain ⟨a, b⟩ := pls_plain h'
    refine ⟨by simpa [py, PyData.plain] using a, ?_⟩
    show PyData.depth (.list (pys l)) ≤ n + 1
    simp only [PyData.depth]
    omega
  | 0, .tup l, h => by simp [pl] at h
  | 0, .lst o l, h => by simp [pl] at h
  | 0, .dct _ _ _, h => by simp [pl] at h
  | n + 1, .dct _ _ _, h => by simp [pl] at h
  | 0, .ins _ _ _ _, h => by simp [pl] at h
  | n + 1, .ins _ _ _ _, h => by simp [pl] at h
  | 0, .scr _, h => by simp [pl] at h
  | n + 1, .scr _, h => by simp [pl] at h
  | 0, .ty _, h => by simp [pl] at h
  | n + 1, .ty _, h => by simp [pl] at h
  | 0, .cls _, h => by simp [pl] at h
  | n + 1, .cls _, h => by simp [pl] at h
  | 0, .xcp _ _ _, h => by simp [pl] at h
  | n + 1, .xcp _ _ _, h => by simp [pl] at h
theorem pls_plain : ∀ {n : Nat} {l : List D}, pls n l = true → PyData.plainAll (pys l) = true ∧ PyData.depthAll (pys l) ≤ n
  | _, [], _ => ⟨rfl, Nat.zero_le _⟩
  | n, d :: r, h => by
    have h' : pl n d = true ∧ pls n r = true := by simpa [pls] using h
    obtain ⟨a, b⟩ := pl_plain h'.1
    obtain ⟨a', b'⟩ := pls_plain h'.2
    refine ⟨by simp only [pys, PyData.plainAll, a, a', Bool.and_self], ?_⟩
    simp only [pys, PyData.depthAll]
    exact Nat.max_le.mpr ⟨b, b'⟩
end
variable {F : Addr → Prop}
mutual
theorem Tr.dp : ∀ {d : D} {v : V} {O : List Addr} {n : Nat}, pl n d = true → Tr G H F d v O → Dp G.K H v (py d)
  | .non, _, _, _, _, h => by simp only [Tr] at h; rw [h.1]; exact .non
  | .bl b, _, _, _, _, h => by simp only [Tr] at h; rw [h.1]; exact .bl b
  | .int b, _, _, _, _, h => by simp only [Tr] at h; rw [h.1]; exact .int b
  | .str b, _, _, _, _, h => by simp only [Tr] at h; rw [h.1]; exact .str b
  | .tup l, _, _, 0, p, _ => by simp [pl] at p
  | .lst o l, _, _, 0, p, _ => by simp [pl] at p
  | .dct _ _ _, _, _, 0, p, _ => by simp [pl] at p
  | .dct _ _ _, _, _, n + 1, p, _ => by simp [pl] at p
  | .ins _ _ _ _, _, _, 0, p, _ => by simp [pl] at p
  | .ins _ _ _ _, _, _, n + 1, p, _ => by simp [pl] at p
  | .scr _, _, _, 0, p, _ => by simp [pl] at p
  | .scr _, _, _, n + 1, p, _ => by simp [pl] at p
  | .ty _, _, _, 0, p, _ => by simp [pl] at p
  | .ty _, _, _, n + 1, p, _ => by simp [pl] at p
  | .cls _, _, _, 0, p, _ => by simp [pl] at p
  | .cls _, _, _, n + 1, p, _ => by simp [pl] at p
  | .xcp _ _ _, _, _, 0, p, _ => by simp [pl] at p
  | .xcp _ _ _, _, _, n + 1, p, _ => by simp [pl] at p
  | .tup l, _, _, n + 1, p, h => by
    simp only [Tr] at h
    obtain ⟨a, xs, e, e1, h⟩ := h
    rw [e]
    exact .tup (SqT.of e1) (TrL.dp (n := n) (by simpa [pl] using p) h)
  | .lst true l, _, _, n + 1, p, h => by
    simp only [Tr] at h
    obtain ⟨a, xs, O', e, e1, h, _⟩ := h
    rw [e]
    exact .lst (SqL.of e1) (TrL.dp (n := n) (by simpa [pl] using p) h)
  | .lst false l, _, _, n + 1, p, h => by
    simp only [Tr] at h
    obtain ⟨a, xs, e, e1, _, h, _⟩ := h
    rw [e]
    exact .lst (SqL.of e1) (TrL.dp (n := n) (by simpa [pl] using p) h)
theorem TrL.dp : ∀ {l : List D} {xs : List V} {O : List Addr} {n : Nat}, pls n l = true → TrL G H F l xs O → DpAll G.K H xs (pys l)
  | [], _, _, _, _, h => by simp only [TrL] at h; rw [h.1]; exact .nil
  | d :: r, _, _, n, p, h => by
    have p' : pl n d = true ∧ pls n r = true := by simpa [pls] using p
    simp only [TrL] at h
    obtain ⟨x, ys, O1, O2, e, h1, h2, _⟩ := h
    rw [e]
    exact .cons (Tr.dp p'.1 h1) (TrL.dp p'.2 h2)
end
theorem W.dp {n : Nat} (w : W G B H g) (m : (v, d) ∈ g) (p : pl n d = true) : Dp G.K H v (py d) := by
  obtain ⟨F, O, _, h⟩ := w
  obtain ⟨O1, t⟩ := h.mem _ m
  exact t.dp p
def eqS : List D → Option D
  | [x, y] => if pl 50 x && pl 50 y then some (.bl (PyData.eqv (py x) (py y))) else none
  | _ => none
def neS : List D → Option D
  | [x, y] => if pl 50 x && pl 50 y then some (.bl (!PyData.eqv (py x) (py y))) else none
  | _ => none
section
variable {X : Cx} {Q : VK}
theorem eq_ok (hG : G.K = X.K) (hu : X.A.units + 64 < cLine) : OpR X (compareOp .Eq) (fun x y => rZ false G eqS [x, y]) := by
  intro pins s σ H x y v u Q I rx ry h
  obtain ⟨B, g, ds, d, w, hl, hm, hk, hf, q⟩ := h
  obtain ⟨d1, d2, rfl⟩ := len2 hl
  obtain ⟨m1, m2⟩ := mem2 hm
  simp only [eqS] at hf
  split at hf
  · rename_i hp
    have hp' : pl 50 d1 = true ∧ pl 50 d2 = true := by simpa using hp
    cases hf
    have r1 := w.dp m1 hp'.1
    have r2 := w.dp m2 hp'.2
    rw [hG] at r1 r2
    obtain ⟨as, r1⟩ := Dp.reads I _ x v r1 rx
    obtain ⟨bs, r2⟩ := Dp.reads I _ y u r2 ry
    obtain ⟨p1, q1⟩ := pl_plain hp'.1
    obtain ⟨p2, q2⟩ := pl_plain hp'.2
    refine SeqAt.eq_plain r1 r2 p1 p2 ?_ ⟨.bl _, H, I, rfl, w.scal q fun F => by simp [Tr]⟩
    have := Nat.min_le_left (py d1).depth (py d2).depth
    omega
  · cases hf
theorem ne_ok (hG : G.K = X.K) (hu : X.A.units + 64 < cLine) : OpR X (compareOp .NotEq) (fun x y => rZ false G neS [x, y]) := by
  intro pins s σ H x y v u Q I rx ry h
  obtain ⟨B, g, ds, d, w, hl, hm, hk, hf, q⟩ := h
  obtain ⟨d1, d2, rfl⟩ := len2 hl
  obtain ⟨m1, m2⟩ := mem2 hm
  simp only [neS] at hf
  split at hf
  · rename_i hp
    have hp' : pl 50 d1 = true ∧ pl 50 d2 = true := by simpa using hp
    cases hf
    have r1 := w.dp m1 hp'.1
    have r2 := w.dp m2 hp'.2
    rw [hG] at r1 r2
    obtain ⟨as, r1⟩ := Dp.reads I _ x v r1 rx
    obtain ⟨bs, r2⟩ := Dp.reads I _ y u r2 ry
    obtain ⟨p1, q1⟩ := pl_plain hp'.1
    obtain ⟨p2, q2⟩ := pl_plain hp'.2
    refine SeqAt.ne_plain r1 r2 p1 p2 ?_ ⟨.bl _, H, I, rfl, w.scal q fun F => by simp [Tr]⟩
    have := Nat.min_le_left (py d1).depth (py d2).depth
    omega
  · cases hf
end
def isSeq : D → Bool
  | .tup _ | .lst _ _ => true
  | _ => false
/-- x < y -/
def ltD : D → D → Option Bool
  | .int i, .int j => some (decide (i < j))
  | .str s, .str t => some (decide (s.cps.toList < t.cps.toList))
  | x, y => if (pl 50 x && pl 50 y && PySem.W.alike (py x) (py y) && isSeq x) = true then some (PySem.W.dataLt (py x) (py y)) else none
def ltS : List D → Option D
  | [x, y] => (ltD x y).map .bl
  | _ => none
def gtS : List D → Option D
  | [x, y] => (ltD y x).map .bl
  | _ => none
def leS : List D → Option D
  | [x, y] => (ltD y x).map fun b => .bl (!b)
  | _ => none
def geS : List D → Option D
  | [x, y] => (ltD x y).map fun b => .bl (!b)
  | _ => none
section
variable {X : Cx} {Q : VK} {pins : List (Addr × Obj)} {s : Shared} {σ : L2.St} {x y : V} {u u' : Value}
/-- two data that can be compared -/
theorem lt_read (I : Inv X pins σ H s) (hG : G.K = X.K) (w : W G B H g) {d1 d2 : D} {b : Bool} (rx : RelV x u) (ry : RelV y u') (m1 : (x, d1) ∈ g) (m2 : (y, d2) ∈ g) (h : ltD d1 d2 = some b) :
    ∃ as bs, Reads s.heap u (py d1) as ∧ Reads s.heap u' (py d2) bs ∧ PySem.W.alike (py d1) (py d2) = true ∧ py d1 ≠ .none ∧ py d2 ≠ .none ∧ (py d1).depth ≤ 50 ∧ (py d2).depth ≤ 50 ∧ PySem.W.dataLt (py d1) (py d2) = b := by
  unfold ltD at h
  split at h
  · cases h
    have e1 := w.int m1
    have e2 := w.int m2
    subst e1 e2
    obtain ⟨t, rfl⟩ := rx
    obtain ⟨t', rfl⟩ := ry
    exact ⟨_, _, Reads.int _ _, Reads.int _ _, rfl, (by simp [py]), (by simp [py]), Nat.zero_le _, Nat.zero_le _, PySem.W.dataLt_int _ _⟩
  · cases h
    have e1 := w.str m1
    have e2 := w.str m2
    subst e1 e2
    obtain ⟨t, rfl⟩ := rx
    obtain ⟨t', rfl⟩ := ry
    exact ⟨_, _, Reads.str _ _, Reads.str _ _, rfl, (by simp [py]), (by simp [py]), Nat.zero_le _, Nat.zero_le _, PySem.W.dataLt_str _ _⟩
  · split at h
    · rename_i hp
      have hp' : ((pl 50 d1 = true ∧ pl 50 d2 = true) ∧ PySem.W.alike (py d1) (py d2) = true) ∧ isSeq d1 = true := by simpa only [Bool.and_eq_true] using hp
      cases h
      have r1 := w.dp m1 hp'.1.1.1
      have r2 := w.dp m2 hp'.1.1.2
      rw [hG] at r1 r2
      obtain ⟨as, r1⟩ := Dp.reads I _ x u r1 rx
      obtain ⟨bs, r2⟩ := Dp.reads I _ y u' r2 ry
      have n1 : py d1 ≠ .none := by
        have := hp'.2
        intro e
        cases d1 <;> first | (simp [py] at e; done) | (simp [isSeq] at this)
      refine ⟨as, bs, r1, r2, hp'.1.2, n1, PySem.W.ne_none_both hp'.1.2 n1, (pl_plain hp'.1.1.1).2, (pl_plain hp'.1.1.2).2, rfl⟩
    · cases h
theorem lt_ok (hG : G.K = X.K) (hu : X.A.units + 64 < cLine) : OpR X (compareOp .Lt) (fun x y => rZ false G ltS [x, y]) := by
  intro pins s σ H x y v u Q I rx ry h
  obtain ⟨B, g, ds, d, w, hl, hm, hk, hf, q⟩ := h
  obtain ⟨d1, d2, rfl⟩ := len2 hl
  obtain ⟨m1, m2⟩ := mem2 hm
  obtain ⟨b, hb, rfl⟩ := Option.map_eq_some_iff.mp (show (ltD d1 d2).map D.bl = some d from hf)
  obtain ⟨as, bs, r1, r2, al, n1, n2, p1, p2, e⟩ := lt_read I hG w rx ry m1 m2 hb
  refine PySem.W.lt_data r1 r2 al n1 ?_ ⟨.bl _, H, I, rfl, ?_⟩
  · have := Nat.min_le_left (py d1).depth (py d2).depth
    omega
  · rw [e]; exact w.scal q fun F => by simp [Tr]
theorem ge_ok (hG : G.K = X.K) (hu : X.A.units + 64 < cLine) : OpR X (compareOp .GtE) (fun x y => rZ false G geS [x, y]) := by
  intro pins s σ H x y v u Q I rx ry h
  obtain ⟨B, g, ds, d, w, hl, hm, hk, hf, q⟩ := h
  obtain ⟨d1, d2, rfl⟩ := len2 hl
  obtain ⟨m1, m2⟩ := mem2 hm
  obtain ⟨b, hb, rfl⟩ := Option.map_eq_some_iff.mp (show (ltD d1 d2).map (fun b => D.bl (!b)) = some d from hf)
  obtain ⟨as, bs, r1, r2, al, n1, n2, p1, p2, e⟩ := lt_read I hG w rx ry m1 m2 hb
  refine PySem.W.ge_data r1 r2 al n1 ?_ ⟨.bl _, H, I, rfl, ?_⟩
  · have := Nat.min_le_left (py d1).depth (py d2).depth
    omega
  · rw [e]; exact w.scal q fun F => by simp [Tr]
theorem gt_ok (hG : G.K = X.K) (hu : X.A.units + 64 < cLine) : OpR X (compareOp .Gt) (fun x y => rZ false G gtS [x, y]) := by
  intro pins s σ H x y v u Q I rx ry h
  obtain ⟨B, g, ds, d, w, hl, hm, hk, hf, q⟩ := h
  obtain ⟨d1, d2, rfl⟩ := len2 hl
  obtain ⟨m1, m2⟩ := mem2 hm
  obtain ⟨b, hb, rfl⟩ := Option.map_eq_some_iff.mp (show (ltD d2 d1).map D.bl = some d from hf)
  obtain ⟨as, bs, r1, r2, al, n1, n2, p1, p2, e⟩ := lt_read I hG w ry rx m2 m1 hb
  refine PySem.W.gt_data r2 r1 (by rw [PySem.W.alike_comm]; exact al) n2 ?_ ⟨.bl _, H, I, rfl, ?_⟩
  · have := Nat.min_le_left (py d1).depth (py d2).depth
    omega
  · rw [e]; exact w.scal q fun F => by simp [Tr]
theorem le_ok (hG : G.K = X.K) (hu : X.A.units + 64 < cLine) : OpR X (compareOp .LtE) (fun x y => rZ false G leS [x, y]) := by
  intro pins s σ H x y v u Q I rx ry h
  obtain ⟨B, g, ds, d, w, hl, hm, hk, hf, q⟩ := h
  obtain ⟨d1, d2, rfl⟩ := len2 hl
  obtain ⟨m1, m2⟩ := mem2 hm
  obtain ⟨b, hb, rfl⟩ := Option.map_eq_some_iff.mp (show (ltD d2 d1).map (fun b => D.bl (!b)) = some d from hf)
  obtain ⟨as, bs, r1, r2, al, n1, n2, p1, p2, e⟩ := lt_read I hG w ry rx m2 m1 hb
  refine PySem.W.le_data r2 r1 (by rw [PySem.W.alike_comm]; exact al) n2 ?_ ⟨.bl _, H, I, rfl, ?_⟩
  · have := Nat.min_le_left (py d1).depth (py d2).depth
    omega
  · rw [e]; exact w.scal q fun F => by simp [Tr]
def isS : List D → Option D
  | [.bl a, .bl b] => some (.bl (decide (a = b)))
  | [.non, .non] => some (.bl true)
  | [_, .non] => some (.bl false)
  | _ => none
def isntS : List D → Option D
  | [.bl a, .bl b] => some (.bl (!decide (a = b)))
  | [.non, .non] => some (.bl false)
  | [_, .non] => some (.bl true)
  | _ => none
theorem W.notNon (w : W G B H g) (m : (v, d) ∈ g) (n : d ≠ .non) : v ≠ .non := by
  obtain ⟨F, O, _, h⟩ := w
  obtain ⟨O1, t⟩ := h.mem _ m
  intro e
  subst e
  cases d with
  | non => exact n rfl
  | lst o l => cases o <;> (simp only [Tr] at t; obtain ⟨_, _, _⟩ := t; simp_all)
  | dct o ks l => cases o <;> (simp only [Tr] at t; obtain ⟨_, _, _⟩ := t; simp_all)
  | ins o C ns l => cases o <;> (simp only [Tr] at t; obtain ⟨_, _, _⟩ := t; simp_all)
  | tup l => simp [Tr] at t
  | _ => simp [Tr] at t
theorem is_ok : OpR X (compareOp .Is) (fun x y => rZ false G isS [x, y]) := by
  intro pins s σ H x y v u Q I rx ry h
  obtain ⟨B, g, ds, d, w, hl, hm, hk, hf, q⟩ := h
  obtain ⟨d1, d2, rfl⟩ := len2 hl
  obtain ⟨m1, m2⟩ := mem2 hm
  unfold isS at hf
  split at hf
  · rename_i a b e
    cases e
    cases hf
    exact op_isBl pins s σ H x y v u Q I rx ry ⟨a, b, w.bl m1, w.bl m2, w.scal q fun F => by simp [Tr]⟩
  · rename_i e
    cases e
    cases hf
    refine op_isN pins s σ H x y v u Q I rx ry ⟨w.non m2, ?_⟩
    rw [w.non m1]
    exact w.scal q fun F => by simp [Tr]
  · rename_i d' n e
    cases e
    cases hf
    refine op_isN pins s σ H x y v u Q I rx ry ⟨w.non m2, ?_⟩
    rw [decide_eq_false (w.notNon m1 (fun z => n (by rw [z])))]
    exact w.scal q fun F => by simp [Tr]
  · cases hf
theorem isnt_ok : OpR X (compareOp .IsNot) (fun x y => rZ false G isntS [x, y]) := by
  intro pins s σ H x y v u Q I rx ry h
  obtain ⟨B, g, ds, d, w, hl, hm, hk, hf, q⟩ := h
  obtain ⟨d1, d2, rfl⟩ := len2 hl
  obtain ⟨m1, m2⟩ := mem2 hm
  unfold isntS at hf
  split at hf
  · rename_i a b e
    cases e
    cases hf
    exact op_notBl pins s σ H x y v u Q I rx ry ⟨a, b, w.bl m1, w.bl m2, w.scal q fun F => by simp [Tr]⟩
  · rename_i e
    cases e
    cases hf
    refine op_notN pins s σ H x y v u Q I rx ry ⟨w.non m2, ?_⟩
    rw [w.non m1]
    exact w.scal q fun F => by simp [Tr]
  · rename_i d' n e
    cases e
    cases hf
    refine op_notN pins s σ H x y v u Q I rx ry ⟨w.non m2, ?_⟩
    rw [decide_eq_false (w.notNon m1 (fun z => n (by rw [z])))]
    exact w.scal q fun F => by simp [Tr]
  · cases hf
end
end Z

set_option Elab.async false
set_option linter.all false
set_option maxRecDepth 100000
set_option maxHeartbeats 4000000
/-! Z4: operations on lists, tuples, texts; built-ins; methods. -/
namespace Z
open PySem PySem.Spec PyProof.Rows L2
variable {G : Cfg} {B : Bs} {H : Hp} {g : List It} {p a : Addr} {v : V} {d : D} {X : Cx} {Q : VK}

/-! ### in -/
def inS (neg : Bool) : List D → Option D
  | [x, .lst _ l] => if pl 50 x && pls 50 l then some (.bl (neg ^^ l.any fun z => PyData.eqv (py z) (py x))) else none
  | [x, .tup l] => if pl 50 x && pls 50 l then some (.bl (neg ^^ l.any fun z => PyData.eqv (py z) (py x))) else none
  | [.str z, .str t] => if z.cps.size = 1 then some (.bl (neg ^^ decide (z.cps.getD 0 0 ∈ t.cps.toList))) else none
  | _ => none
theorem str_one {z : Str} (h : z.cps.size = 1) : z = ⟨#[z.cps.getD 0 0]⟩ := by
  obtain ⟨⟨l⟩⟩ := z
  match l, h with
  | [c], _ => rfl
theorem any_pys (l : List D) (x : PyData) : ((pys l).any fun y => PyData.eqv y x) = l.any fun z => PyData.eqv (py z) x := by
  rw [pys_map, List.any_map]
  rfl
theorem in_ok (hG : G.K = X.K) (hu : X.A.units + 64 < cLine) (neg : Bool) : OpR X (compareOp (if neg then .NotIn else .In)) (fun x y => rZ false G (inS neg) [x, y]) := by
  intro pins s σ H x y v u Q I rx ry h
  obtain ⟨B, g, ds, d, w, hl, hm, hk, hf, q⟩ := h
  obtain ⟨d1, d2, rfl⟩ := len2 hl
  obtain ⟨m1, m2⟩ := mem2 hm
  unfold inS at hf
  split at hf
  · rename_i x1 o l e
    cases e
    split at hf
    · rename_i hp
      have hp' : pl 50 d1 = true ∧ pls 50 l = true := by simpa using hp
      cases hf
      have r1 := w.dp m1 hp'.1
      have r2 := w.dp (n := 51) m2 (by simpa [pl] using hp'.2)
      rw [hG] at r1 r2
      obtain ⟨as, r1⟩ := Dp.reads I _ x v r1 rx
      obtain ⟨bs, r2⟩ := Dp.reads I _ y u r2 ry
      obtain ⟨p1, q1⟩ := pl_plain hp'.1
      obtain ⟨p2, q2⟩ := pls_plain hp'.2
      have room : X.A.units + 1 + min (PyData.depthAll (pys l)) (py d1).depth < cLine := by
        have := Nat.min_le_right (PyData.depthAll (pys l)) (py d1).depth
        omega
      cases neg with
      | true => exact SeqAt.notIn_list_data r2 r1 p2 p1 room ⟨.bl _, H, I, rfl, by rw [any_pys, show (!_) = (true ^^ _) from (Bool.true_xor _).symm]; exact w.scal q fun F => by simp [Tr]⟩
      | false => exact SeqAt.in_list_data r2 r1 p2 p1 room ⟨.bl _, H, I, rfl, by rw [any_pys]; exact w.scal (by simpa using q) fun F => by simp [Tr]⟩
    · cases hf
  · rename_i x1 l e
    cases e
    split at hf
    · rename_i hp
      have hp' : pl 50 d1 = true ∧ pls 50 l = true := by simpa using hp
      cases hf
      have r1 := w.dp m1 hp'.1
      have r2 := w.dp (n := 51) m2 (by simpa [pl] using hp'.2)
      rw [hG] at r1 r2
      obtain ⟨as, r1⟩ := Dp.reads I _ x v r1 rx
      obtain ⟨bs, r2⟩ := Dp.reads I _ y u r2 ry
      obtain ⟨p1, q1⟩ := pl_plain hp'.1
      obtain ⟨p2, q2⟩ := pls_plain hp'.2
      have room : X.A.units + 1 + min (PyData.depthAll (pys l)) (py d1).depth < cLine := by
        have := Nat.min_le_right (PyData.depthAll (pys l)) (py d1).depth
        omega
      cases neg with
      | true => exact SeqAt.notIn_tuple_data r2 r1 p2 p1 room ⟨.bl _, H, I, rfl, by rw [any_pys, show (!_) = (true ^^ _) from (Bool.true_xor _).symm]; exact w.scal q fun F => by simp [Tr]⟩
      | false => exact SeqAt.in_tuple_data r2 r1 p2 p1 room ⟨.bl _, H, I, rfl, by rw [any_pys]; exact w.scal (by simpa using q) fun F => by simp [Tr]⟩
    · cases hf
  · rename_i z t e
    cases e
    split at hf
    · rename_i hc
      cases hf
      have e1 := w.str m1
      have e2 := w.str m2
      rw [str_one hc] at e1
      cases neg with
      | true => exact op_notIn_sign pins s σ H x y v u Q I rx ry ⟨_, t, e1, e2, by rw [show (!_) = (true ^^ _) from (Bool.true_xor _).symm]; exact w.scal q fun F => by simp [Tr]⟩
      | false => exact op_in_sign pins s σ H x y v u Q I rx ry ⟨_, t, e1, e2, w.scal (by simpa using q) fun F => by simp [Tr]⟩
    · cases hf
  · cases hf

/-! ### subscripts -/
def idxS : List D → Option D
  | [.lst _ l, .int i] => atI l i
  | [.tup l, .int i] => atI l i
  | [.str z, .int i] => if z.cps.size ≤ 10000000 then (atI z.cps.toList i).map fun c => .str ⟨#[c]⟩ else none
  | _ => none
theorem atI_len {α β : Type} {xs : List α} {ys : List β} {i : Int} {y : β} (e : xs.length = ys.length) (h : atI ys i = some y) : ∃ (j : Nat) (x : α), xs[j]? = some x ∧ ys[j]? = some y ∧ atI xs i = some x := by
  unfold atI at h ⊢
  rw [e]
  cases q : ixN ys.length i with
  | none => rw [q] at h; cases h
  | some j =>
    rw [q] at h
    have h' : ys[j]? = some y := h
    have hj : j < xs.length := by
      rw [e]
      exact (List.getElem?_eq_some_iff.mp h').1
    exact ⟨j, xs[j], List.getElem?_eq_getElem hj, h', List.getElem?_eq_getElem hj⟩
theorem idx_ok : IxR X (fun x y => rZ true G idxS [x, y]) := by
  intro value slice pins s σ H x y v u Q I rx ry h hs
  obtain ⟨B, g, ds, d, w, hl, hm, hk, hf, q⟩ := h
  obtain ⟨d1, d2, rfl⟩ := len2 hl
  obtain ⟨m1, m2⟩ := mem2 hm
  obtain ⟨k1, k2⟩ := kn2 (hk rfl)
  unfold idxS at hf
  split at hf
  · rename_i o l i e
    cases e
    obtain ⟨l1, xs, e1, h1, c1⟩ := w.lst m1
    obtain ⟨j, z, hz1, hz2, hz3⟩ := atI_len c1.len hf
    exact ix_list value slice pins s σ H x y v u Q I rx ry ⟨l1, xs, i, z, e1, w.int m2, SqL.of h1, hz3, q _ _ (w.add ((c1.kc k1).cp j z d hz1 hz2))⟩ hs
  · rename_i l i e
    cases e
    obtain ⟨l1, xs, e1, h1, c1⟩ := w.tup m1
    obtain ⟨j, z, hz1, hz2, hz3⟩ := atI_len c1.len hf
    exact ix_tup value slice pins s σ H x y v u Q I rx ry ⟨l1, xs, i, z, e1, w.int m2, SqT.of h1, hz3, q _ _ (w.add ((c1.kc k1).cp j z d hz1 hz2))⟩ hs
  · rename_i z i e
    cases e
    split at hf
    · rename_i hz
      obtain ⟨c, hc, rfl⟩ := Option.map_eq_some_iff.mp hf
      exact ix_str value slice pins s σ H x y v u Q I rx ry ⟨z, i, c, w.str m1, w.int m2, lim_ok hz, hc, w.scal q fun F => by simp [Tr]⟩ hs
    · cases hf
  · cases hf
/-- a slice: the thing, its parts -/
def slcS (lo hi : Option Int) : List D → Option D
  | [.lst _ l] => some (.lst true (cutD l lo hi))
  | [.tup l] => some (.tup (cutD l lo hi))
  | [.str z] => if z.cps.size ≤ 10000000 then some (.str (cutS z lo hi)) else none
  | [.scr l] => some (.lst true ((cutD (l.map D.int) lo hi)))
  | _ => none
theorem cutD_whole {l : List D} {lo hi : Option Int} {n : Nat} (e : n = l.length) (h : HT.sIx n 0 lo = 0 ∧ HT.sIx n n hi = n) : cutD l lo hi = l := by
  unfold cutD
  rw [← e, h.1, h.2, e]
  simp
theorem cut_ints (l : List Int) (lo hi : Option Int) : cutD (l.map D.int) lo hi = (((l.drop (HT.sIx l.length 0 lo)).take (HT.sIx l.length l.length hi - HT.sIx l.length 0 lo))).map D.int := by
  unfold cutD
  rw [List.length_map, List.map_take, List.map_drop]
theorem kc_ints (l : List Int) : KC G H g (l.map V.int) (l.map D.int) := ⟨by simp, fun i x d h1 h2 => by
  rw [List.getElem?_map] at h1 h2
  cases q : l[i]? with
  | none => rw [q] at h1; cases h1
  | some n =>
    rw [q] at h1 h2
    cases h1
    cases h2
    exact Cp.triv fun F => by simp [Tr]⟩
theorem W.scr {l : List Int} (w : W G B H g) (m : (v, .scr l) ∈ g) : ∃ a, v = .ref a ∧ SqL G.K H a (l.map V.int) := by
  obtain ⟨F, O, _, h⟩ := w
  obtain ⟨O1, t⟩ := h.mem _ m
  simp only [Tr] at t
  obtain ⟨a, e, h, _⟩ := t
  refine ⟨a, e, ?_⟩
  rcases h with ⟨o, h⟩ | h
  · exact .inl (.inr ⟨o, h⟩)
  · exact h H
theorem slc_ok (hG : G.K = X.K) : SlR X (fun x lo hi => rZ true G (slcS lo hi) [x]) := by
  intro pins s σ H x v vl vu lo hi sl Q I rx hs pl pu h
  obtain ⟨B, g, ds, d, w, hl, hm, hk, hf, q⟩ := h
  obtain ⟨d1, rfl⟩ := len1 hl
  have m1 := mem1 hm
  have k1 : kn d1 = true := hk rfl _ (by simp)
  unfold slcS at hf
  split at hf
  · rename_i o l e
    cases e
    cases hf
    obtain ⟨l1, xs, e1, h1, c1⟩ := w.lst m1
    exact sl_list pins s σ H x v vl vu lo hi sl Q I rx hs pl pu ⟨l1, xs, e1, SqL.of h1, fun p hp => q _ _ (newL w hp ((c1.kc k1).cut lo hi))⟩
  · rename_i l e
    cases e
    cases hf
    obtain ⟨l1, xs, e1, h1, c1⟩ := w.tup m1
    refine sl_tupA pins s σ H x v vl vu lo hi sl Q I rx hs pl pu ⟨l1, xs, e1, SqT.of h1, fun z => ?_, fun _ p hp => q _ _ (newT w hp ((c1.kc k1).cut lo hi))⟩
    rw [← e1]
    refine q _ _ ?_
    rw [cutD_whole c1.len z]
    exact w.add (Cp.of m1 k1)
  · rename_i z e
    cases e
    split at hf
    · rename_i hz
      cases hf
      exact sl_str pins s σ H x v vl vu lo hi sl Q I rx hs pl pu ⟨z, w.str m1, lim_ok hz, w.scal q fun F => by simp [Tr]⟩
    · cases hf
  · rename_i l e
    cases e
    cases hf
    obtain ⟨a, e1, h1⟩ := w.scr m1
    rw [hG] at h1
    exact sl_list pins s σ H x v vl vu lo hi sl Q I rx hs pl pu ⟨a, _, e1, h1, fun p hp => q _ _ (newL w hp ((kc_ints l).cut lo hi))⟩
  · cases hf

/-! ### built-ins -/
def lenS : List D → Option D
  | [.lst _ l] => some (.int l.length)
  | [.tup l] => some (.int l.length)
  | [.str z] => if z.cps.size ≤ 10000000 then some (.int z.cps.size) else none
  | [.scr l] => some (.int l.length)
  | _ => none
theorem len_ok (hG : G.K = X.K) : CallR X (.builtin "len") (rZ false G lenS) := by
  intro pins s σ H xs us Q I r h
  obtain ⟨B, g, ds, d, w, hl, hm, hk, hf, q⟩ := h
  unfold lenS at hf
  split at hf
  · rename_i o l
    cases hf
    match xs, hl with
    | [x], _ =>
    have m1 := mem1 hm
    obtain ⟨l1, ys, e1, h1, c1⟩ := w.lst m1
    subst e1
    refine call_len pins s σ H _ us Q I r ⟨_, l.length, rfl, .inl ⟨ys, SqL.of h1, c1.len.symm⟩, w.scal q fun F => by simp [Tr]⟩
  · rename_i l
    cases hf
    match xs, hl with
    | [x], _ =>
    have m1 := mem1 hm
    obtain ⟨l1, ys, e1, h1, c1⟩ := w.tup m1
    subst e1
    refine call_len pins s σ H _ us Q I r ⟨_, l.length, rfl, .inr ⟨ys, SqT.of h1, c1.len.symm⟩, w.scal q fun F => by simp [Tr]⟩
  · rename_i z
    split at hf
    · rename_i hz
      cases hf
      match xs, hl with
      | [x], _ =>
      have m1 := mem1 hm
      have e1 := w.str m1
      subst e1
      refine call_len pins s σ H _ us Q I r ⟨_, z.cps.size, rfl, ⟨lim_ok hz, rfl⟩, w.scal q fun F => by simp [Tr]⟩
    · cases hf
  · rename_i l
    cases hf
    match xs, hl with
    | [x], _ =>
    have m1 := mem1 hm
    obtain ⟨a, e1, h1⟩ := w.scr m1
    subst e1
    rw [hG] at h1
    refine call_len pins s σ H _ us Q I r ⟨_, l.length, rfl, .inl ⟨_, h1, by simp⟩, w.scal q fun F => by simp [Tr]⟩
  · cases hf
def absS : List D → Option D
  | [.int i] => some (.int (if i < 0 then -i else i))
  | _ => none
theorem abs_ok : CallR X (.builtin "abs") (rZ false G absS) := by
  intro pins s σ H xs us Q I r h
  obtain ⟨B, g, ds, d, w, hl, hm, hk, hf, q⟩ := h
  unfold absS at hf
  split at hf
  · rename_i i
    cases hf
    match xs, hl with
    | [x], _ =>
    have e1 := w.int (mem1 hm)
    subst e1
    exact call_abs pins s σ H _ us Q I r ⟨i, rfl, w.scal q fun F => by simp [Tr]⟩
  · cases hf
def intS : List D → Option D
  | [.int i] => some (.int i)
  | [.bl b] => some (.int (if b then 1 else 0))
  | _ => none
theorem int_ok : CallR X (.type "int") (rZ false G intS) := by
  intro pins s σ H xs us Q I r h
  obtain ⟨B, g, ds, d, w, hl, hm, hk, hf, q⟩ := h
  unfold intS at hf
  split at hf
  · rename_i i
    cases hf
    match xs, hl with
    | [x], _ =>
    have e1 := w.int (mem1 hm)
    subst e1
    exact call_int1 pins s σ H _ us Q I r (.inl ⟨i, rfl, w.scal q fun F => by simp [Tr]⟩)
  · rename_i b
    cases hf
    match xs, hl with
    | [x], _ =>
    have e1 := w.bl (mem1 hm)
    subst e1
    exact call_int1 pins s σ H _ us Q I r (.inr ⟨b, rfl, w.scal q fun F => by simp [Tr]⟩)
  · cases hf
def listS : List D → Option D
  | [.lst _ l] => some (.lst true l)
  | [.tup l] => some (.lst true l)
  | _ => none
theorem list_ok : CallR X (.type "list") (rZ true G listS) := by
  intro pins s σ H xs us Q I r h
  obtain ⟨B, g, ds, d, w, hl, hm, hk, hf, q⟩ := h
  have hk := hk rfl
  unfold listS at hf
  split at hf
  · rename_i o l
    cases hf
    match xs, hl with
    | [x], _ =>
    have m1 := mem1 hm
    have k1 := hk _ List.mem_cons_self
    obtain ⟨l1, ys, e1, h1, c1⟩ := w.lst m1
    subst e1
    exact call_list_of pins s σ H _ us Q I r ⟨l1, ys, rfl, .inl (SqL.of h1), fun p hp => q _ _ (newL w hp (c1.kc k1))⟩
  · rename_i l
    cases hf
    match xs, hl with
    | [x], _ =>
    have m1 := mem1 hm
    have k1 := hk _ List.mem_cons_self
    obtain ⟨l1, ys, e1, h1, c1⟩ := w.tup m1
    subst e1
    exact call_list_of pins s σ H _ us Q I r ⟨l1, ys, rfl, .inr (SqT.of h1), fun p hp => q _ _ (newL w hp (c1.kc k1))⟩
  · cases hf
def tupleS : List D → Option D
  | [.lst _ l] => some (.tup l)
  | [.tup l] => some (.tup l)
  | _ => none
theorem tuple_ok : CallR X (.type "tuple") (rZ true G tupleS) := by
  intro pins s σ H xs us Q I r h
  obtain ⟨B, g, ds, d, w, hl, hm, hk, hf, q⟩ := h
  have hk := hk rfl
  unfold tupleS at hf
  split at hf
  · rename_i o l
    cases hf
    match xs, hl with
    | [x], _ =>
    have m1 := mem1 hm
    have k1 := hk _ List.mem_cons_self
    obtain ⟨l1, ys, e1, h1, c1⟩ := w.lst m1
    subst e1
    exact call_tuple_of pins s σ H _ us Q I r ⟨l1, ys, rfl, .inl ⟨SqL.of h1, fun p hp => q _ _ (newT w hp (c1.kc k1))⟩⟩
  · rename_i l
    cases hf
    match xs, hl with
    | [x], _ =>
    have m1 := mem1 hm
    have k1 := hk _ List.mem_cons_self
    obtain ⟨l1, ys, e1, h1, c1⟩ := w.tup m1
    subst e1
    exact call_tuple_of pins s σ H _ us Q I r ⟨l1, ys, rfl, .inr ⟨SqT.of h1, q _ _ (w.add (Cp.of m1 k1))⟩⟩
  · cases hf
def divmodS : List D → Option D
  | [.int i, .int j] => if 0 < j ∧ j < 1073741824 then some (.tup [.int (i / j), .int (i % j)]) else none
  | _ => none
theorem divmod_ok : CallR X (.builtin "divmod") (rZ false G divmodS) := by
  intro pins s σ H xs us Q I r h
  obtain ⟨B, g, ds, d, w, hl, hm, hk, hf, q⟩ := h
  unfold divmodS at hf
  split at hf
  · rename_i i j
    split at hf
    · rename_i hc
      cases hf
      match xs, hl with
      | [x, y], _ =>
      obtain ⟨m1, m2⟩ := mem2 hm
      have e1 := w.int m1
      have e2 := w.int m2
      subst e1 e2
      exact call_divmod pins s σ H _ us Q I r ⟨i, j, rfl, hc, fun p hp => q _ _ (newT w hp (.cons (Cp.triv fun F => by simp [Tr]) (.cons (Cp.triv fun F => by simp [Tr]) .nil)))⟩
    · cases hf
  · cases hf

/-! ### the lesser, the greater of two -/
theorem CmpOf.strs_lt {prog : Program} {w : World} {A : Around} {P : Nat → Value → Prop} (val : Nat → Str) (hval : ∀ i v, P i v → ∃ t, v = .str (val i) t) :
    CmpOf prog w A .Lt P (fun i j => decide ((val i).cps.toList < (val j).cps.toList)) := fun i j vi vj s Q E hi hj h => by
  obtain ⟨t, rfl⟩ := hval i vi hi
  obtain ⟨u, rfl⟩ := hval j vj hj
  exact PyProof.Rows.lt_str h
theorem CmpOf.strs_gt {prog : Program} {w : World} {A : Around} {P : Nat → Value → Prop} (val : Nat → Str) (hval : ∀ i v, P i v → ∃ t, v = .str (val i) t) :
    CmpOf prog w A .Gt P (fun i j => decide ((val j).cps.toList < (val i).cps.toList)) := fun i j vi vj s Q E hi hj h => by
  obtain ⟨t, rfl⟩ := hval i vi hi
  obtain ⟨u, rfl⟩ := hval j vj hj
  exact PySem.P.gt_str h
theorem min_two_strs {prog : Program} {w : World} {A : Around} {E : Value → Shared → Prop} {s : Shared} {a b : Str} {t u : Tok} {Q : Value → Shared → Prop} (hh : A.handled = none)
    (h : ∀ h' tk, (∀ c o, s.heap.get? c = some o → h'.get? c = some o) → Q (if b.cps.toList < a.cps.toList then .str b u else .str a t) { s with heap := h', toks := tk }) :
    wpAny (model prog w) A (call (.builtin "min") [.str a t, .str b u]) Q E s := by
  have hT : (s.heap.push { cls := .type "tuple", data := .seq #[.str a t, .str b u] }).IsTuple s.heap.objs.size #[.str a t, .str b u] := ⟨_, Heap.get?_push_size _ rfl, rfl, 0, rfl⟩
  refine call_min_two (wpAny_pyIter_tuple hT ?_)
  have hsz : (s.heap.push { cls := .type "tuple", data := .seq #[.str a t, .str b u] }).objs.size = s.heap.objs.size + 1 := Heap.size_push ..
  refine ⟨_, [_, s.heap.objs.size], [_], _, _, _, _, rfl, Walks.tuple (A := A.in1) hh _ s.heap.objs.size (by rw [hsz]; exact Nat.ne_of_lt (Nat.lt_succ_self _)) #[.str a t, .str b u],
    ⟨⟨_, Heap.get?_push_size _ rfl, rfl, rfl⟩, hT.push _⟩, fun c hc => ?_, by simp, CmpOf.strs_lt (fun i => if i = 0 then a else b) (fun i v hv => ?_), fun v h' tk hP hk => ?_⟩
  · show c < ((s.heap.push _).push _).objs.size
    rw [Heap.size_push, hsz]
    rcases List.mem_cons.mp hc with rfl | hc
    · rw [hsz]; exact Nat.lt_succ_self _
    · rcases List.mem_cons.mp hc with rfl | hc
      · exact Nat.lt_succ_of_lt (Nat.lt_succ_self _)
      · cases hc
  · match i, hv with
    | 0, hv => exact ⟨t, by simpa using hv.symm⟩
    | 1, hv => exact ⟨u, by simpa using hv.symm⟩
    | i + 2, hv => simp at hv
  · have hold : ∀ c o, s.heap.get? c = some o → h'.get? c = some o := fun c o e => by
      refine hk c o (fun hm => ?_) (Heap.get?_push_of_some _ (Heap.get?_push_of_some _ e))
      rcases List.mem_cons.mp hm with e1 | hm
      · have := Heap.lt_size e; rw [e1, hsz] at this; exact Nat.lt_irrefl _ (Nat.lt_of_succ_lt this)
      · cases hm
    have := h h' tk hold
    have hv : v = if b.cps.toList < a.cps.toList then Value.str b u else Value.str a t := by
      have hP' : (#[Value.str a t, Value.str b u])[argBest (fun i j => decide ((if i = 0 then a else b).cps.toList < (if j = 0 then a else b).cps.toList)) 1]? = some v := hP
      by_cases hba : b.cps.toList < a.cps.toList
      · have e : argBest (fun i j => decide ((if i = 0 then a else b).cps.toList < (if j = 0 then a else b).cps.toList)) 1 = 1 := by simp [argBest, hba]
        rw [e] at hP'
        rw [if_pos hba]
        simpa using hP'.symm
      · have e : argBest (fun i j => decide ((if i = 0 then a else b).cps.toList < (if j = 0 then a else b).cps.toList)) 1 = 0 := by simp [argBest, hba]
        rw [e] at hP'
        rw [if_neg hba]
        simpa using hP'.symm
    rw [hv]; exact this
theorem max_two_strs {prog : Program} {w : World} {A : Around} {E : Value → Shared → Prop} {s : Shared} {a b : Str} {t u : Tok} {Q : Value → Shared → Prop} (hh : A.handled = none)
    (h : ∀ h' tk, (∀ c o, s.heap.get? c = some o → h'.get? c = some o) → Q (if a.cps.toList < b.cps.toList then .str b u else .str a t) { s with heap := h', toks := tk }) :
    wpAny (model prog w) A (call (.builtin "max") [.str a t, .str b u]) Q E s := by
  have hT : (s.heap.push { cls := .type "tuple", data := .seq #[.str a t, .str b u] }).IsTuple s.heap.objs.size #[.str a t, .str b u] := ⟨_, Heap.get?_push_size _ rfl, rfl, 0, rfl⟩
  refine call_max_two (wpAny_pyIter_tuple hT ?_)
  have hsz : (s.heap.push { cls := .type "tuple", data := .seq #[.str a t, .str b u] }).objs.size = s.heap.objs.size + 1 := Heap.size_push ..
  refine ⟨_, [_, s.heap.objs.size], [_], _, _, _, _, rfl, Walks.tuple (A := A.in1) hh _ s.heap.objs.size (by rw [hsz]; exact Nat.ne_of_lt (Nat.lt_succ_self _)) #[.str a t, .str b u],
    ⟨⟨_, Heap.get?_push_size _ rfl, rfl, rfl⟩, hT.push _⟩, fun c hc => ?_, by simp, CmpOf.strs_gt (fun i => if i = 0 then a else b) (fun i v hv => ?_), fun v h' tk hP hk => ?_⟩
  · show c < ((s.heap.push _).push _).objs.size
    rw [Heap.size_push, hsz]
    rcases List.mem_cons.mp hc with rfl | hc
    · rw [hsz]; exact Nat.lt_succ_self _
    · rcases List.mem_cons.mp hc with rfl | hc
      · exact Nat.lt_succ_of_lt (Nat.lt_succ_self _)
      · cases hc
  · match i, hv with
    | 0, hv => exact ⟨t, by simpa using hv.symm⟩
    | 1, hv => exact ⟨u, by simpa using hv.symm⟩
    | i + 2, hv => simp at hv
  · have hold : ∀ c o, s.heap.get? c = some o → h'.get? c = some o := fun c o e => by
      refine hk c o (fun hm => ?_) (Heap.get?_push_of_some _ (Heap.get?_push_of_some _ e))
      rcases List.mem_cons.mp hm with e1 | hm
      · have := Heap.lt_size e; rw [e1, hsz] at this; exact Nat.lt_irrefl _ (Nat.lt_of_succ_lt this)
      · cases hm
    have := h h' tk hold
    have hv : v = if a.cps.toList < b.cps.toList then Value.str b u else Value.str a t := by
      have hP' : (#[Value.str a t, Value.str b u])[argBest (fun i j => decide ((if j = 0 then a else b).cps.toList < (if i = 0 then a else b).cps.toList)) 1]? = some v := hP
      by_cases hba : a.cps.toList < b.cps.toList
      · have e : argBest (fun i j => decide ((if j = 0 then a else b).cps.toList < (if i = 0 then a else b).cps.toList)) 1 = 1 := by simp [argBest, hba]
        rw [e] at hP'
        rw [if_pos hba]
        simpa using hP'.symm
      · have e : argBest (fun i j => decide ((if j = 0 then a else b).cps.toList < (if i = 0 then a else b).cps.toList)) 1 = 0 := by simp [argBest, hba]
        rw [e] at hP'
        rw [if_neg hba]
        simpa using hP'.symm
    rw [hv]; exact this
def min2S : List D → Option D
  | [.int i, .int j] => some (.int (if j < i then j else i))
  | [.str i, .str j] => some (.str (if j.cps.toList < i.cps.toList then j else i))
  | _ => none
def max2S : List D → Option D
  | [.int i, .int j] => some (.int (if j > i then j else i))
  | [.str i, .str j] => some (.str (if i.cps.toList < j.cps.toList then j else i))
  | _ => none
theorem min2_ok (hc : X.calm = true) : CallR X (.builtin "min") (rZ false G min2S) := by
  intro pins s σ H xs us Q I r h
  obtain ⟨B, g, ds, d, w, hl, hm, hk, hf, q⟩ := h
  unfold min2S at hf
  split at hf
  · rename_i i j
    cases hf
    match xs, hl with
    | [x, y], _ =>
    obtain ⟨m1, m2⟩ := mem2 hm
    have e1 := w.int m1
    have e2 := w.int m2
    subst e1 e2
    exact call_min2 hc pins s σ H _ us Q I r ⟨i, j, rfl, w.scal q fun F => by simp [Tr]⟩
  · rename_i i j
    cases hf
    match xs, hl with
    | [x, y], _ =>
    obtain ⟨m1, m2⟩ := mem2 hm
    have e1 := w.str m1
    have e2 := w.str m2
    subst e1 e2
    obtain ⟨u, w', rfl, ⟨t, rfl⟩, ⟨t', rfl⟩⟩ := vals2 r
    refine min_two_strs (I.ok.hd hc) fun h' tk k => ⟨.str (if j.cps.toList < i.cps.toList then j else i), H, I.kept k, ?_, w.scal q fun F => by simp [Tr]⟩
    by_cases hj : j.cps.toList < i.cps.toList
    · rw [if_pos hj, if_pos hj]; exact ⟨_, rfl⟩
    · rw [if_neg hj, if_neg hj]; exact ⟨_, rfl⟩
  · cases hf
theorem max2_ok (hc : X.calm = true) : CallR X (.builtin "max") (rZ false G max2S) := by
  intro pins s σ H xs us Q I r h
  obtain ⟨B, g, ds, d, w, hl, hm, hk, hf, q⟩ := h
  unfold max2S at hf
  split at hf
  · rename_i i j
    cases hf
    match xs, hl with
    | [x, y], _ =>
    obtain ⟨m1, m2⟩ := mem2 hm
    have e1 := w.int m1
    have e2 := w.int m2
    subst e1 e2
    exact call_max2 hc pins s σ H _ us Q I r ⟨i, j, rfl, w.scal q fun F => by simp [Tr]⟩
  · rename_i i j
    cases hf
    match xs, hl with
    | [x, y], _ =>
    obtain ⟨m1, m2⟩ := mem2 hm
    have e1 := w.str m1
    have e2 := w.str m2
    subst e1 e2
    obtain ⟨u, w', rfl, ⟨t, rfl⟩, ⟨t', rfl⟩⟩ := vals2 r
    refine max_two_strs (I.ok.hd hc) fun h' tk k => ⟨.str (if i.cps.toList < j.cps.toList then j else i), H, I.kept k, ?_, w.scal q fun F => by simp [Tr]⟩
    by_cases hj : i.cps.toList < j.cps.toList
    · rw [if_pos hj, if_pos hj]; exact ⟨_, rfl⟩
    · rw [if_neg hj, if_neg hj]; exact ⟨_, rfl⟩
  · cases hf

/-! ### all, any of truths -/
def blsD : List D → Option (List Bool)
  | [] => some []
  | .bl b :: r => (blsD r).map (b :: ·)
  | _ => none
theorem TrL.bls {F : Addr → Prop} : ∀ {l : List D} {xs : List V} {O : List Addr} {bs : List Bool}, blsD l = some bs → TrL G H F l xs O → xs = bs.map V.bl
  | [], _, _, _, e, h => by cases e; simp only [TrL] at h; rw [h.1] <;> rfl
  | .bl b :: r, _, _, bs, e, h => by
    obtain ⟨bs', e', rfl⟩ := Option.map_eq_some_iff.mp (show (blsD r).map (b :: ·) = some bs from e)
    simp only [TrL, Tr] at h
    obtain ⟨x, ys, O1, O2, rfl, ⟨rfl, _⟩, h2, _⟩ := h
    rw [TrL.bls e' h2]
    rfl
  | .non :: r, _, _, _, e, _ => by cases e
  | .int _ :: r, _, _, _, e, _ => by cases e
  | .str _ :: r, _, _, _, e, _ => by cases e
  | .tup _ :: r, _, _, _, e, _ => by cases e
  | .lst _ _ :: r, _, _, _, e, _ => by cases e
  | .dct _ _ _ :: r, _, _, _, e, _ => by cases e
  | .ins _ _ _ _ :: r, _, _, _, e, _ => by cases e
  | .scr _ :: r, _, _, _, e, _ => by cases e
  | .ty _ :: r, _, _, _, e, _ => by cases e
  | .cls _ :: r, _, _, _, e, _ => by cases e
  | .xcp _ _ _ :: r, _, _, _, e, _ => by cases e
theorem W.lstT {o : Bool} {l : List D} (w : W G B H g) (m : (v, .lst o l) ∈ g) : ∃ a xs, v = .ref a ∧ H a = some (.lst xs) ∧ ∃ F O, TrL G H F l xs O := by
  obtain ⟨F, O, _, h⟩ := w
  obtain ⟨O1, t⟩ := h.mem _ m
  obtain ⟨a, xs, O2, e, e1, h2⟩ := t.ref_lst
  exact ⟨a, xs, e, e1, F, O2, h2⟩
theorem W.tupT {l : List D} (w : W G B H g) (m : (v, .tup l) ∈ g) : ∃ a xs, v = .ref a ∧ H a = some (.tup xs) ∧ ∃ F O, TrL G H F l xs O := by
  obtain ⟨F, O, _, h⟩ := w
  obtain ⟨O1, t⟩ := h.mem _ m
  simp only [Tr] at t
  obtain ⟨a, xs, e, e1, h2⟩ := t
  exact ⟨a, xs, e, e1, F, _, h2⟩
def allS : List D → Option D
  | [.lst _ l] => (blsD l).map fun bs => .bl (bs.all id)
  | _ => none
def anyS : List D → Option D
  | [.lst _ l] => (blsD l).map fun bs => .bl (bs.any id)
  | _ => none
theorem all_ok (hc : X.calm = true) : CallR X (.builtin "all") (rZ false G allS) := by
  intro pins s σ H xs us Q I r h
  obtain ⟨B, g, ds, d, w, hl, hm, hk, hf, q⟩ := h
  unfold allS at hf
  split at hf
  · rename_i o l
    obtain ⟨bs, hb, rfl⟩ := Option.map_eq_some_iff.mp hf
    match xs, hl with
    | [x], _ =>
    obtain ⟨a, ys, e1, h1, F, O, t⟩ := w.lstT (mem1 hm)
    subst e1
    exact cr_all hc pins s σ H _ us Q I r ⟨a, bs, rfl, SqL.of (by rw [← t.bls hb]; exact h1), w.scal q fun F => by simp [Tr]⟩
  · cases hf
theorem any_ok (hc : X.calm = true) : CallR X (.builtin "any") (rZ false G anyS) := by
  intro pins s σ H xs us Q I r h
  obtain ⟨B, g, ds, d, w, hl, hm, hk, hf, q⟩ := h
  unfold anyS at hf
  split at hf
  · rename_i o l
    obtain ⟨bs, hb, rfl⟩ := Option.map_eq_some_iff.mp hf
    match xs, hl with
    | [x], _ =>
    obtain ⟨a, ys, e1, h1, F, O, t⟩ := w.lstT (mem1 hm)
    subst e1
    exact cr_any hc pins s σ H _ us Q I r ⟨a, bs, rfl, SqL.of (by rw [← t.bls hb]; exact h1), w.scal q fun F => by simp [Tr]⟩
  · cases hf

/-! ### isinstance -/
def tyD : D → Option String
  | .non => some "NoneType"
  | .bl _ => some "bool"
  | .int _ => some "int"
  | .str _ => some "str"
  | .tup _ => some "tuple"
  | .lst _ _ => some "list"
  | _ => none
def isT (t T : String) : Bool := t == T || (t == "bool" && T == "int")
def askT : List String := ["str", "int", "bool", "tuple", "list", "dict"]
theorem kit_isT {t T : String} (h1 : t ∈ ["NoneType", "bool", "int", "str", "tuple", "list"]) (h2 : T ∈ askT) : kitB t T = some (isT t T) := by
  have key : (["NoneType", "bool", "int", "str", "tuple", "list"].all fun t => askT.all fun T => decide (kitB t T = some (isT t T))) = true := by decide +kernel
  exact of_decide_eq_true (List.all_eq_true.mp (List.all_eq_true.mp key t h1) T h2)
theorem tyD_in {d : D} {t : String} (h : tyD d = some t) : t ∈ ["NoneType", "bool", "int", "str", "tuple", "list"] := by
  cases d <;> (first | (cases h; simp) | cases h)
theorem W.tyx (w : W G B H g) (m : (v, d) ∈ g) {t : String} (h : tyD d = some t) : TyX X.K H v (.type t) := by
  cases d with
  | non => cases h; rw [w.non m]; exact .base .non
  | bl b => cases h; rw [w.bl m]; exact .base (.bl b)
  | int i => cases h; rw [w.int m]; exact .base (.int i)
  | str i => cases h; rw [w.str m]; exact .base (.str i)
  | tup l => cases h; obtain ⟨a, xs, e, e1, _⟩ := w.tup m; rw [e]; exact .base (.tup e1)
  | lst o l => cases h; obtain ⟨a, xs, e, e1, _⟩ := w.lst m; rw [e]; exact .base (.lst e1)
  | dct _ _ _ => cases h
  | ins _ _ _ _ => cases h
  | scr _ => cases h
  | ty _ => cases h
  | cls _ => cases h
  | xcp _ _ _ => cases h
theorem W.ty {i : String} (w : W G B H g) (m : (v, .ty i) ∈ g) : v = .ty i := by
  obtain ⟨F, O, _, h⟩ := w
  obtain ⟨O1, t⟩ := h.mem _ m
  simp only [Tr] at t; exact t.1
def tysD : List D → Option (List String)
  | [] => some []
  | .ty n :: r => (tysD r).map (n :: ·)
  | _ => none
theorem TrL.tys {F : Addr → Prop} : ∀ {l : List D} {xs : List V} {O : List Addr} {bs : List String}, tysD l = some bs → TrL G H F l xs O → xs = bs.map V.ty
  | [], _, _, _, e, h => by cases e; simp only [TrL] at h; rw [h.1] <;> rfl
  | .ty b :: r, _, _, bs, e, h => by
    obtain ⟨bs', e', rfl⟩ := Option.map_eq_some_iff.mp (show (tysD r).map (b :: ·) = some bs from e)
    simp only [TrL, Tr] at h
    obtain ⟨x, ys, O1, O2, rfl, ⟨rfl, _⟩, h2, _⟩ := h
    rw [TrL.tys e' h2]
    rfl
  | .non :: r, _, _, _, e, _ => by cases e
  | .int _ :: r, _, _, _, e, _ => by cases e
  | .str _ :: r, _, _, _, e, _ => by cases e
  | .tup _ :: r, _, _, _, e, _ => by cases e
  | .lst _ _ :: r, _, _, _, e, _ => by cases e
  | .dct _ _ _ :: r, _, _, _, e, _ => by cases e
  | .ins _ _ _ _ :: r, _, _, _, e, _ => by cases e
  | .scr _ :: r, _, _, _, e, _ => by cases e
  | .bl _ :: r, _, _, _, e, _ => by cases e
  | .cls _ :: r, _, _, _, e, _ => by cases e
  | .xcp _ _ _ :: r, _, _, _, e, _ => by cases e
def isiS : List D → Option D
  | [d, .ty T] => (tyD d).bind fun t => if T ∈ askT then some (.bl (isT t T)) else none
  | [d, .tup l] => (tyD d).bind fun t => (tysD l).bind fun Ts => if Ts.all (fun T => decide (T ∈ askT)) = true then some (.bl (Ts.any (isT t))) else none
  | _ => none
theorem kitAny_isT {K : PySem.W.Frag} {t : String} (h1 : t ∈ ["NoneType", "bool", "int", "str", "tuple", "list"]) : ∀ {Ts : List String}, Ts.all (fun T => decide (T ∈ askT)) = true → PySem.W.kitAny K (.type t) (Ts.map Value.type) = some (Ts.any (isT t))
  | [], _ => kitAny_nil
  | T :: Ts, h => by
    have h' : T ∈ askT ∧ Ts.all (fun T => decide (T ∈ askT)) = true := by simpa only [List.all_cons, Bool.and_eq_true, decide_eq_true_eq] using h
    rw [List.map_cons, List.any_cons]
    refine kitAny_cons (kit_ty (kit_isT h1 h'.1)) (fun e => ?_) fun e => ?_
    · rw [e, Bool.false_or]; exact kitAny_isT h1 h'.2
    · rw [e, Bool.true_or]
theorem paired_tys : ∀ Ts : List String, Paired ClsV (Ts.map V.ty) (Ts.map Value.type)
  | [] => .nil
  | T :: Ts => .cons (.ty T) (paired_tys Ts)
theorem isi_ok : CallR X (.builtin "isinstance") (rZ false G isiS) := by
  intro pins s σ H xs us Q I r h
  obtain ⟨B, g, ds, d, w, hl, hm, hk, hf, q⟩ := h
  unfold isiS at hf
  split at hf
  · rename_i d1 T
    obtain ⟨t, ht, hf⟩ := Option.bind_eq_some_iff.mp hf
    split at hf
    · rename_i hT
      cases hf
      match xs, hl with
      | [x, y], _ =>
      obtain ⟨m1, m2⟩ := mem2 hm
      have e2 := w.ty m2
      subst e2
      exact call_isi pins s σ H _ us Q I r ⟨x, .ty T, .type t, .type T, _, rfl, .ty T, w.tyx m1 ht, kit_ty (kit_isT (tyD_in ht) hT), w.scal q fun F => by simp [Tr]⟩
    · cases hf
  · rename_i d1 l
    obtain ⟨t, ht, hf⟩ := Option.bind_eq_some_iff.mp hf
    obtain ⟨Ts, hTs, hf⟩ := Option.bind_eq_some_iff.mp hf
    split at hf
    · rename_i hT
      cases hf
      match xs, hl with
      | [x, y], _ =>
      obtain ⟨m1, m2⟩ := mem2 hm
      obtain ⟨a, ys, e1, h1, F, O, tt⟩ := w.tupT m2
      subst e1
      exact call_isiT pins s σ H _ us Q I r ⟨x, a, _, .type t, _, _, rfl, by rw [h1, tt.tys hTs], paired_tys Ts, w.tyx m1 ht, kitAny_isT (tyD_in ht) hT, w.scal q fun F => by simp [Tr]⟩
    · cases hf
  · cases hf

/-! ### methods -/
def strsD : List D → Option (List Str)
  | [] => some []
  | .str b :: r => (strsD r).map (b :: ·)
  | _ => none
theorem TrL.strs {F : Addr → Prop} : ∀ {l : List D} {xs : List V} {O : List Addr} {bs : List Str}, strsD l = some bs → TrL G H F l xs O → xs = bs.map V.str
  | [], _, _, _, e, h => by cases e; simp only [TrL] at h; rw [h.1] <;> rfl
  | .str b :: r, _, _, bs, e, h => by
    obtain ⟨bs', e', rfl⟩ := Option.map_eq_some_iff.mp (show (strsD r).map (b :: ·) = some bs from e)
    simp only [TrL, Tr] at h
    obtain ⟨x, ys, O1, O2, rfl, ⟨rfl, _⟩, h2, _⟩ := h
    rw [TrL.strs e' h2]
    rfl
  | .non :: r, _, _, _, e, _ => by cases e
  | .int _ :: r, _, _, _, e, _ => by cases e
  | .ty _ :: r, _, _, _, e, _ => by cases e
  | .tup _ :: r, _, _, _, e, _ => by cases e
  | .lst _ _ :: r, _, _, _, e, _ => by cases e
  | .dct _ _ _ :: r, _, _, _, e, _ => by cases e
  | .ins _ _ _ _ :: r, _, _, _, e, _ => by cases e
  | .scr _ :: r, _, _, _, e, _ => by cases e
  | .bl _ :: r, _, _, _, e, _ => by cases e
  | .cls _ :: r, _, _, _, e, _ => by cases e
  | .xcp _ _ _ :: r, _, _, _, e, _ => by cases e
def joinS : List D → Option D
  | [.str z, .lst _ l] => (strsD l).bind fun ys => if (ys.map (·.length)).sum + ys.length * z.length ≤ 10000000 then some (.str (Txt.join z ys)) else none
  | [.str z, .tup l] => (strsD l).bind fun ys => if (ys.map (·.length)).sum + ys.length * z.length ≤ 10000000 then some (.str (Txt.join z ys)) else none
  | _ => none
theorem join_ok : MtR X "str.join" (fun x xs => rZ false G joinS (x :: xs)) := by
  intro pins s σ H x xs v us Q I rx rs h
  obtain ⟨B, g, ds, d, w, hl, hm, hk, hf, q⟩ := h
  unfold joinS at hf
  split at hf
  · rename_i z o l
    obtain ⟨ys, hy, hf⟩ := Option.bind_eq_some_iff.mp hf
    split at hf
    · rename_i hz
      cases hf
      match xs, hl with
      | [y], _ =>
      obtain ⟨m1, m2⟩ := mem2 hm
      have e1 := w.str m1
      subst e1
      obtain ⟨a, zs, e2, h2, F, O, t⟩ := w.lstT m2
      subst e2
      rw [t.strs hy] at h2
      exact mt_join pins s σ H _ _ v us Q I rx rs ⟨z, a, ys, rfl, rfl, .inl (SqL.of h2), by omega, w.scal q fun F => by simp [Tr]⟩
    · cases hf
  · rename_i z l
    obtain ⟨ys, hy, hf⟩ := Option.bind_eq_some_iff.mp hf
    split at hf
    · rename_i hz
      cases hf
      match xs, hl with
      | [y], _ =>
      obtain ⟨m1, m2⟩ := mem2 hm
      have e1 := w.str m1
      subst e1
      obtain ⟨a, zs, e2, h2, F, O, t⟩ := w.tupT m2
      subst e2
      rw [t.strs hy] at h2
      exact mt_join pins s σ H _ _ v us Q I rx rs ⟨z, a, ys, rfl, rfl, .inr (SqT.of h2), by omega, w.scal q fun F => by simp [Tr]⟩
    · cases hf
  · cases hf
/-- the first place of a text in a list of texts -/
def indexS : List D → Option D
  | [.lst _ l, .str z] => (strsD l).bind fun ys => (ys.findIdx? (fun y => decide (y = z))).map fun i => .int (i : Nat)
  | _ => none
theorem eqV_str (a b : Str) : eqV (.str a) (.str b) = decide (a = b) := by
  show (a == b) = decide (a = b)
  exact Bool.beq_eq_decide_eq a b
theorem index_ok (hG : G.K = X.K) : MtR X "list.index" (fun x xs => rZ false G indexS (x :: xs)) := by
  intro pins s σ H x xs v us Q I rx rs h
  obtain ⟨B, g, ds, d, w, hl, hm, hk, hf, q⟩ := h
  unfold indexS at hf
  split at hf
  · rename_i o l z
    obtain ⟨ys, hy, hf⟩ := Option.bind_eq_some_iff.mp hf
    obtain ⟨i, hi, rfl⟩ := Option.map_eq_some_iff.mp hf
    match xs, hl with
    | [y], _ =>
    obtain ⟨m1, m2⟩ := mem2 hm
    obtain ⟨a, zs, e1, h1, F, O, t⟩ := w.lstT m1
    have e2 := w.str m2
    subst e1 e2
    rw [t.strs hy] at h1
    obtain ⟨hlt, hp, hn⟩ := List.findIdx?_eq_some_iff_getElem.mp hi
    refine mt_index pins s σ H _ _ v us Q I rx rs ⟨a, ys.map V.str, .str z, i, .str ys[i], rfl, rfl, SqL.of h1, rfl, by simp [flatV], by simp [hlt], ?_, fun m z' hm' hz' => ?_, w.scal q fun F => by simp [Tr]⟩
    · rw [eqV_str]; exact hp
    · rw [List.getElem?_map] at hz'
      have hml : m < ys.length := Nat.lt_trans hm' hlt
      rw [List.getElem?_eq_getElem hml] at hz'
      cases hz'
      rw [eqV_str]
      have := hn m hm'
      simpa using this
  · cases hf

/-! ### sorted -/
def kinS (l : List D) : Bool := l.all (fun d => match d with | .tup (_ :: _) => true | _ => false) || l.all (fun d => match d with | .int _ => true | .str _ => true | .lst _ _ => true | _ => false)
def alk (l : List D) : Bool := l.all fun x => l.all fun y => PySem.W.alike (py x) (py y)
def sortD (l : List D) : List D := l.mergeSort (PySem.W.dataLe false py)
def sortedS : List D → Option D
  | [.lst _ l] => if (pls 50 l && alk l && kinS l) = true ∧ l.length ≤ 1000000 then some (.lst true (sortD l)) else none
  | _ => none
end Z

set_option Elab.async false
set_option linter.all false
set_option maxRecDepth 100000
set_option maxHeartbeats 4000000
/-! Z5: sorted of data. -/
namespace Z
open PySem PySem.Spec PyProof.Rows L2
variable {G : Cfg} {B : Bs} {H : Hp} {g : List It} {p a : Addr} {v : V} {d : D} {X : Cx} {Q : VK}

theorem each_vals : ∀ {xs : List V} {us : List Value} {l : List D}, Vals xs us → xs.length = l.length → PySem.W.EachIs (fun v (b : V × D) => RelV b.1 v) us (xs.zip l)
  | [], _, _, r, _ => by cases r; simp only [List.zip_nil_left]; exact .nil
  | x :: xs, _, [], _, h => by simp at h
  | x :: xs, _, d :: l, r, h => by
    cases r with
    | cons r1 r2 =>
      rw [List.zip_cons_cons]
      exact .cons r1 (each_vals r2 (by simpa using h))
theorem vals_each : ∀ {us : List Value} {bs : List (V × D)}, PySem.W.EachIs (fun v (b : V × D) => RelV b.1 v) us bs → Vals (bs.map (·.1)) us
  | _, _, .nil => .nil
  | _, _, .cons r t => .cons r (vals_each t)
theorem each_reads {pins : List (Addr × Obj)} {s : Shared} {σ : L2.St} (I : Inv X pins σ H s) : ∀ {xs : List V} {us : List Value} {l : List D}, DpAll X.K H xs (pys l) → Vals xs us →
    PySem.W.EachIs (fun v (b : V × D) => ∃ as, Reads s.heap v (py b.2) as) us (xs.zip l)
  | [], _, _, _, r => by cases r; simp only [List.zip_nil_left]; exact .nil
  | x :: xs, _, [], h, _ => by simp only [pys] at h; cases h
  | x :: xs, _, d :: l, h, r => by
    simp only [pys] at h
    cases r with
    | cons r1 r2 =>
      cases h with
      | cons h1 h2 =>
        rw [List.zip_cons_cons]
        exact .cons (Dp.reads I _ _ _ h1 r1) (each_reads I h2 r2)
theorem W.lstKD {o : Bool} {l : List D} {n : Nat} (w : W G B H g) (m : (v, .lst o l) ∈ g) (p : pls n l = true) : ∃ a xs, v = .ref a ∧ H a = some (.lst xs) ∧ Kids G H g xs l ∧ DpAll G.K H xs (pys l) := by
  obtain ⟨a, xs, e, e1, k⟩ := w.lst m
  obtain ⟨b, ys, e2, e3, F, O, t⟩ := w.lstT m
  rw [e] at e2; cases e2
  rw [e1] at e3; cases e3
  exact ⟨a, xs, e, e1, k, t.dp p⟩
theorem zip_get {xs : List V} {l : List D} {q : V × D} (h : q ∈ xs.zip l) : ∃ i : Nat, xs[i]? = some q.1 ∧ l[i]? = some q.2 := by
  obtain ⟨i, hi⟩ := List.mem_iff_getElem?.mp h
  rw [List.getElem?_zip_eq_some] at hi
  exact ⟨i, hi.1, hi.2⟩
theorem kc_sub {xs : List V} {l : List D} (k : KC G H g xs l) {P : List (V × D)} (h : ∀ q ∈ P, q ∈ xs.zip l) : KC G H g (P.map (·.1)) (P.map (·.2)) := ⟨by simp, fun i x d h1 h2 => by
  rw [List.getElem?_map] at h1 h2
  cases q : P[i]? with
  | none => rw [q] at h1; cases h1
  | some y =>
    rw [q] at h1 h2
    cases h1
    cases h2
    obtain ⟨j, h3, h4⟩ := zip_get (h y (List.mem_of_getElem? q))
    exact k.cp j _ _ h3 h4⟩
theorem zip_snd : ∀ {xs : List V} {l : List D}, xs.length = l.length → (xs.zip l).map (·.2) = l
  | [], [], _ => rfl
  | x :: xs, d :: l, h => by rw [List.zip_cons_cons, List.map_cons, zip_snd (by simpa using h)]
  | [], _ :: _, h => by simp at h
  | _ :: _, [], h => by simp at h
theorem sorted_ok (hG : G.K = X.K) (hu : X.A.units + 64 < cLine) : CallR X (.builtin "sorted") (rZ true G sortedS) := by
  intro pins s σ H vs us Q I r h
  obtain ⟨B, g, ds, d, w, hl, hm, hk, hf, q⟩ := h
  replace hk := hk rfl
  unfold sortedS at hf
  split at hf
  · rename_i o l
    split at hf
    · rename_i hc
      cases hf
      match vs, hl with
      | [x], _ =>
      have m1 := mem1 hm
      have k1 : noOwns l = true := hk _ List.mem_cons_self
      obtain ⟨hp, hz⟩ := hc
      have hp' : (pls 50 l = true ∧ alk l = true) ∧ kinS l = true := by simpa only [Bool.and_eq_true] using hp
      obtain ⟨a, xs, e1, h1, c1, dp⟩ := w.lstKD m1 hp'.1.1
      subst e1
      rw [Vals.ref1 r]
      rw [hG] at dp
      obtain ⟨its, rv, pl, hz2⟩ := I.list (SqL.of (K := X.K) h1)
      have hal : PySem.W.AllAlike ((xs.zip l).map fun b => py b.2) := by
        intro d1 m1 d2 m2
        obtain ⟨b1, n1, rfl⟩ := List.mem_map.mp m1
        obtain ⟨b2, n2, rfl⟩ := List.mem_map.mp m2
        have := List.all_eq_true.mp hp'.1.2 b1.2 (List.of_mem_zip n1).2
        exact List.all_eq_true.mp this b2.2 (List.of_mem_zip n2).2
      have hs : PySem.W.Sortable ((xs.zip l).map fun b => py b.2) := by
        rcases Bool.or_eq_true_iff.mp hp'.2 with z | z
        · refine .inl fun d1 m1 => ?_
          obtain ⟨b1, n1, rfl⟩ := List.mem_map.mp m1
          have := List.all_eq_true.mp z b1.2 (List.of_mem_zip n1).2
          split at this
          · rename_i e t he
            exact ⟨py e, pys t, by rw [he]; rfl⟩
          · cases this
        · refine .inr fun d1 m1 => ?_
          obtain ⟨b1, n1, rfl⟩ := List.mem_map.mp m1
          have := List.all_eq_true.mp z b1.2 (List.of_mem_zip n1).2
          split at this
          · rename_i e he
            rw [he]; exact ⟨by simp [py], by simp [py]⟩
          · rename_i e he
            rw [he]; exact ⟨by simp [py], by simp [py]⟩
          · rename_i e he
            rw [he]; exact ⟨by simp [py], by simp [py]⟩
          · cases this
      have hlen : (xs.zip l).length = l.length := by rw [List.length_zip, c1.len, Nat.min_self]
      refine PySem.W.sorted_data pl.isList (each_vals rv c1.len) (each_reads I dp rv) hal hs (by rw [hlen]; exact lim_ok (by omega)) (fun b hb => ?_) fun out ho eo => ?_
      · have hb2 := (List.of_mem_zip hb).2
        have : Z.pl 50 b.2 = true := by
          have := hp'.1.1
          rw [pls_all] at this
          exact List.all_eq_true.mp this b.2 hb2
        have := (pl_plain this).2
        omega
      · obtain ⟨ep, he'⟩ := PyProof.Rows.sortedAll_at s.heap its out.toArray
        generalize hP : (xs.zip l).mergeSort (PySem.W.dataLe false fun b => py b.2) = P at eo
        have hperm : P.Perm (xs.zip l) := by rw [← hP]; exact List.mergeSort_perm _ _
        have hsnd : P.map (·.2) = sortD l := by
          rw [← hP]
          unfold sortD
          have e2 := zip_snd c1.len
          have := List.map_mergeSort (f := fun b : V × D => b.2) (r := PySem.W.dataLe false fun b : V × D => py b.2) (s := PySem.W.dataLe false py) (l := xs.zip l) (fun a _ b _ => rfl)
          rw [this, e2]
        have kc := kc_sub (c1.kc k1) (P := P) (fun q hq => hperm.mem_iff.mp hq)
        rw [hsnd] at kc
        have hl2 : (P.map (·.1)).length ≤ sizeLine := by rw [List.length_map, hperm.length_eq, hlen]; exact lim_ok (by omega)
        refine ⟨.ref (s.heap.objs.size + 1), upd H (s.heap.objs.size + 1) (.lst (P.map (·.1))), I.laid (t' := s.toks) (fun _ _ => PyProof.Rows.sortedAll_old) (Nat.le_succ _) ⟨hl2, out, ep, vals_each eo, he'⟩, rfl, ?_⟩
        exact q _ _ (newL w (I.hok.fresh (Nat.le_succ _)) kc)
    · cases hf
  · cases hf
end Z

set_option Elab.async false
set_option linter.all false
set_option maxRecDepth 100000
set_option maxHeartbeats 4000000
/-! Z6: expressions as combinators. -/
namespace Z
open PySem PySem.Spec PyProof.Rows L2
variable {c : Ctx} {σ : L2.St} {H : Hp} {l : Pend} {r : Rho} {e : List It} {X : Cx} {Q : VK}

theorem bnd_cases {α β : Type} {m : M α} {f : α → M β} {x : R β} (h : bnd m f r = some x) : (∃ a r1, m r = some (.ok a r1) ∧ f a r1 = some x) ∨ ∃ C ns ds r1, m r = some (.exc C ns ds r1) ∧ x = .exc C ns ds r1 := by
  unfold bnd at h
  cases q : m r with
  | none => rw [q] at h; cases h
  | some y =>
    rw [q] at h
    cases y with
    | ok a r1 => exact .inl ⟨a, r1, rfl, h⟩
    | exc C ns ds r1 => cases h; exact .inr ⟨C, ns, ds, r1, rfl, rfl⟩
theorem tmo_mono {mo : M Opd} {Q Q' : VK} (h : tmo c mo σ H Q) (k : ∀ v H', Q v H' → Q' v H') : tmo c mo σ H Q' := by
  obtain ⟨r, e, x, n, hx, fin⟩ := h
  refine ⟨r, e, x, n, hx, ?_⟩
  cases x with
  | ok o r1 => exact fun v H1 a vk w => k _ _ (fin v H1 a vk w)
  | exc C ns ds r1 => exact fin
theorem tma_mono {mo : M (List Opd)} {Q Q' : List V → Hp → Prop} (h : tma c mo σ H Q) (k : ∀ v H', Q v H' → Q' v H') : tma c mo σ H Q' := by
  obtain ⟨r, e, x, n, hx, fin⟩ := h
  refine ⟨r, e, x, n, hx, ?_⟩
  cases x with
  | ok o r1 => exact fun v H1 hl a vk w => k _ _ (fin v H1 hl a vk w)
  | exc C ns ds r1 => exact fin
theorem tm_mono {mo : M D} {Q Q' : VK} (h : tm c mo σ H Q) (k : ∀ v H', Q v H' → Q' v H') : tm c mo σ H Q' := by
  obtain ⟨r, e, x, n, hx, fin⟩ := h
  refine ⟨r, e, x, n, hx, ?_⟩
  cases x with
  | ok o r1 => exact fun v H1 a w => k _ _ (fin v H1 a w)
  | exc C ns ds r1 => exact fin
def op1 (k : Bool) (f : List D → Option D) (a : M Opd) : M D := bnd a fun o => opc k f [o]
def op2 (k : Bool) (f : List D → Option D) (a b : M Opd) : M D := bnd a fun o => bnd b fun o' => opc k f [o, o']
def opN (k : Bool) (f : List D → Option D) (as : M (List Opd)) : M D := bnd as fun os => opc k f os
/-- the builtin type of the data, where a method is asked of it -/
def tyOk (T : String) : D → Bool
  | .str _ => T == "str"
  | .lst _ _ => T == "list"
  | _ => false
def opM (T : String) (k : Bool) (f : List D → Option D) (a : M Opd) (as : M (List Opd)) : M D := bnd a fun o r => match opdD r o with
  | some d => if tyOk T d = true then bnd as (fun os => opc k f (o :: os)) r else none
  | none => none
theorem tyOk_V {T : String} {B : Bs} {v : V} {d : D} {g : List It} (hG : c.G.K = X.K) (w : W c.G B H g) (m : (v, d) ∈ g) (h : tyOk T d = true) : tyV X.K T v H := by
  cases d with
  | str z =>
    rw [w.str m]
    simpa [tyOk, tyV] using h
  | lst o l =>
    obtain ⟨a, xs, e, e1, _⟩ := w.lst m
    rw [e]
    exact .inl ⟨by simpa [tyOk] using h, xs, SqL.of e1⟩
  | _ => simp [tyOk] at h
theorem red1 {k : Bool} {f : List D → Option D} {ma : M Opd} (h : tm c (op1 k f ma) σ H Q) : tUn (fun x => rZ k c.G f [x]) (tmo c ma) σ H Q :=
  tmo_mono (tk_bnd h) fun v H1 ⟨o, h1⟩ => tk_opc opZ_rZ rfl (by simp) h1
theorem red2 {k : Bool} {f : List D → Option D} {ma mb : M Opd} (h : tm c (op2 k f ma mb) σ H Q) : tOp (fun x y => rZ k c.G f [x, y]) (tmo c ma) (tmo c mb) σ H Q :=
  tmo_mono (tk_bnd h) fun v H1 ⟨o, h1⟩ => tmo_mono (tk_bnd h1) fun u H2 ⟨o', h2⟩ => tk_opc opZ_rZ rfl (by simp) h2
theorem redN {k : Bool} {f : List D → Option D} {ma : M (List Opd)} (h : tm c (opN k f ma) σ H Q) : tCB (rZ k c.G f) (tma c ma) σ H Q :=
  tma_mono (tk_bndA h) fun vs H1 ⟨os, hl, h1⟩ => tk_opc opZ_rZ hl (by simp) h1
theorem redM {T : String} (hG : c.G.K = X.K) {k : Bool} {f : List D → Option D} {ma : M Opd} {mb : M (List Opd)} (h : tm c (opM T k f ma mb) σ H Q) : tBM X.K T (fun x xs => rZ k c.G f (x :: xs)) (tmo c ma) (tma c mb) σ H Q :=
  tmo_mono (tk_bnd h) fun v H1 ⟨o, h1⟩ => by
    obtain ⟨r, e, x, n, hx, fin⟩ := h1
    dsimp only at hx
    split at hx
    · rename_i d hd
      split at hx
      · rename_i ht
        refine ⟨tyOk_V hG n.w (opd_mem n List.mem_cons_self hd) ht, tma_mono (tk_bndA ⟨r, e, x, n, hx, fin⟩) fun vs H2 ⟨os, hl, h2⟩ => tk_opc opZ_rZ (by simp [hl]) (fun p hp => ?_) h2⟩
        rcases List.mem_cons.mp hp with hp | hp
        · exact List.mem_append_right _ (by rw [hp]; exact List.mem_cons_self)
        · exact List.mem_append_left _ hp
      · cases hx
    · cases hx
section
variable {a b ex : Expr} {es : List Expr} {ma mb : M Opd} {ms : M (List Opd)} {k : Bool} {f : List D → Option D} {pos p apos : Pos} {x : Str} {op : Operator} {cop : CmpOp} {uop : UnaryOp}
theorem z_bin (ho : OpR X (binaryOp op) (fun x y => rZ k c.G f [x, y])) (ha : PE X a (tmo c ma)) (hb : PE X b (tmo c mb)) : PE X (.BinOp a op b pos) (tm c (op2 k f ma mb)) :=
  pe_imp (pe_op ho ha hb) fun _ _ _ => red2
theorem z_cmp (ho : OpR X (compareOp cop) (fun x y => rZ k c.G f [x, y])) (ha : PE X a (tmo c ma)) (hb : PE X b (tmo c mb)) (hm : behindInMarks cop b = false := by first | rfl | decide) : PE X (.Compare a [cop] [b] pos) (tm c (op2 k f ma mb)) :=
  pe_imp (pe_cmpR ho ha hb hm) fun _ _ _ => red2
theorem z_un (ho : UnR X (unaryOp uop) (fun x => rZ k c.G f [x])) (ha : PE X a (tmo c ma)) : PE X (.UnaryOp uop a pos) (tm c (op1 k f ma)) :=
  pe_imp (pe_un ho ha) fun _ _ _ => red1
theorem z_ix (ha : PE X a (tmo c ma)) (hb : PE X b (tmo c mb)) (hs : PlainIx b := by intro _ _; rfl) : PE X (.Subscript a b pos) (tm c (op2 true idxS ma mb)) :=
  pe_imp (pe_ix idx_ok ha hb hs) fun _ _ _ => red2
theorem z_fn {id : String} (hc : CallR X (.builtin id) (rZ k c.G f)) (hv : bootBuiltins x = some (.builtin id)) (hg : Gl X x) (hm : X.mg x = none) (ha : PA X (ex :: es) (tma c ms)) (hn : x ≠ "__name__" := by decide) (hdb : (x == ("__debug__" : Str)) = false := by decide)
    (he : starEach (ex :: es) X.env = (false, eval ex X.env) :: starEach es X.env := by rfl) (hpl : (backTo pos (starEach es X.env)).any (·.1) = false := by rfl) : PE X (.Call (.Name x p) (ex :: es) [] pos) (tm c (opN k f ms)) :=
  pe_imp (pe_callB hc hg hm hv ha hn hdb he hpl) fun _ _ _ => redN
theorem z_ty {T : String} (hc : CallR X (.type T) (rZ k c.G f)) (hv : bootBuiltins x = some (.type T)) (hg : Gl X x) (hm : X.mg x = none) (ha : PA X (ex :: es) (tma c ms)) (hn : x ≠ "__name__" := by decide) (hdb : (x == ("__debug__" : Str)) = false := by decide)
    (he : starEach (ex :: es) X.env = (false, eval ex X.env) :: starEach es X.env := by rfl) (hpl : (backTo pos (starEach es X.env)).any (·.1) = false := by rfl) : PE X (.Call (.Name x p) (ex :: es) [] pos) (tm c (opN k f ms)) :=
  pe_imp (pe_callTy hc hg hm hv ha hn hdb he hpl) fun _ _ _ => redN
/-- a builtin's class as a value -/
theorem z_cl {T : String} (hv : bootBuiltins x = some (.type T)) (hg : Gl X x) (hm : X.mg x = none) (hn : x ≠ "__name__" := by decide) (hd : (x == ("__debug__" : Str)) = false := by decide) : PE X (.Name x pos) (tm c (ret (.ty T))) :=
  pe_cst (v := .ty T) (pe_bltn hg hm hv rfl hn hd) fun G H F => by simp [Tr]
theorem z_int {i : Int} {j : Nat} : PE X (.Constant (.int i) j pos) (tm c (ret (.int i))) := pe_cst pe_int fun G H F => by simp [Tr]
theorem z_str {i : Str} {j : Nat} : PE X (.Constant (.str i) j pos) (tm c (ret (.str i))) := pe_cst pe_str fun G H F => by simp [Tr]
theorem z_bl {i : Bool} {j : Nat} : PE X (.Constant (.bool i) j pos) (tm c (ret (.bl i))) := pe_cst pe_bl fun G H F => by simp [Tr]
theorem z_non {j : Nat} : PE X (.Constant .none j pos) (tm c (ret .non)) := pe_cst pe_non fun G H F => by simp [Tr]
/-- a local name handed on, or as an operand -/
theorem z_v (i : Nat) (hN : X.N[i]? = some x := by rfl) (hv : Vis X.env.scope x := by first | exact Or.inl rfl | exact Or.inr (Or.inl rfl) | exact Or.inr (Or.inr rfl)) (hd : (x == ("__debug__" : Str)) = false := by decide)
    (hcd : (x == ("__classdict__" : Str)) = false := by decide) : PE X (.Name x pos) (tm c (slotE i)) := pe_slotE (pe_var hN hv hd hcd)
theorem z_o (k : Bool) (i : Nat) (hN : X.N[i]? = some x := by rfl) (hv : Vis X.env.scope x := by first | exact Or.inl rfl | exact Or.inr (Or.inl rfl) | exact Or.inr (Or.inr rfl)) (hd : (x == ("__debug__" : Str)) = false := by decide)
    (hcd : (x == ("__classdict__" : Str)) = false := by decide) : PE X (.Name x pos) (tmo c (slotO k i)) := pe_slotO (pe_var hN hv hd hcd)
/-- a method that changes nothing -/
theorem z_me {T id : String} {name : Str} (hG : c.G.K = X.K) (hm : MtR X id (fun x xs => rZ k c.G f (x :: xs))) (pa : PlainAttrs T) (slot : Slot T name id) (hty : typeOf (.builtin id) = pure (.type "method_descriptor"))
    (ho : PE X a (tmo c ma)) (ha : PA X (ex :: es) (tma c ms))
    (hbase : attributeBase a name X.env (eval a X.env) = eval a X.env := by rfl)
    (hfew : ((backTo p (starEach (ex :: es) X.env)).all (fun x => !x.1) && (backToKw p (keywordEach [] X.env)).all (fun x => x.1.isSome)
      && decide ((ex :: es).length + ([] : List Keyword).length + (if ([] : List Keyword).isEmpty then 0 else 1) < 30)) = true := by rfl)
    (hline : (apos.endLine == p.line) = true := by rfl) (hs : starEach (ex :: es) X.env = (false, eval ex X.env) :: starEach es X.env := by rfl) (hplain : (backTo p (starEach es X.env)).any (·.1) = false := by rfl) :
    PE X (.Call (.Attribute a name apos) (ex :: es) [] p) (tm c (opM T k f ma ms)) :=
  pe_imp (pe_bm pa slot hty hm ho ha hbase hfew hline hs hplain) fun _ _ _ => redM hG
theorem z_join (hG : c.G.K = X.K) (ho : PE X a (tmo c ma)) (ha : PA X (ex :: es) (tma c ms))
    (hbase : attributeBase a "join" X.env (eval a X.env) = eval a X.env := by rfl)
    (hfew : ((backTo p (starEach (ex :: es) X.env)).all (fun x => !x.1) && (backToKw p (keywordEach [] X.env)).all (fun x => x.1.isSome)
      && decide ((ex :: es).length + ([] : List Keyword).length + (if ([] : List Keyword).isEmpty then 0 else 1) < 30)) = true := by rfl)
    (hline : (apos.endLine == p.line) = true := by rfl) (hs : starEach (ex :: es) X.env = (false, eval ex X.env) :: starEach es X.env := by rfl) (hplain : (backTo p (starEach es X.env)).any (·.1) = false := by rfl) :
    PE X (.Call (.Attribute a "join" apos) (ex :: es) [] p) (tm c (opM "str" false joinS ma ms)) :=
  z_me hG join_ok F.plainAttrs_str F.slot_str_join F.type_str_join ho ha hbase hfew hline hs hplain
theorem z_index (hG : c.G.K = X.K) (ho : PE X a (tmo c ma)) (ha : PA X (ex :: es) (tma c ms))
    (hbase : attributeBase a "index" X.env (eval a X.env) = eval a X.env := by rfl)
    (hfew : ((backTo p (starEach (ex :: es) X.env)).all (fun x => !x.1) && (backToKw p (keywordEach [] X.env)).all (fun x => x.1.isSome)
      && decide ((ex :: es).length + ([] : List Keyword).length + (if ([] : List Keyword).isEmpty then 0 else 1) < 30)) = true := by rfl)
    (hline : (apos.endLine == p.line) = true := by rfl) (hs : starEach (ex :: es) X.env = (false, eval ex X.env) :: starEach es X.env := by rfl) (hplain : (backTo p (starEach es X.env)).any (·.1) = false := by rfl) :
    PE X (.Call (.Attribute a "index" apos) (ex :: es) [] p) (tm c (opM "list" false indexS ma ms)) :=
  z_me hG (index_ok hG) F.plainAttrs_list F.slot_list_index F.type_list_index ho ha hbase hfew hline hs hplain
/-! argument lists -/
theorem z_nil : PA X [] (tma c (ret [])) := pa_nilM
theorem z_cons (h : PE X ex (tmo c ma)) (hs : PA X es (tma c ms)) (st : starEach (ex :: es) X.env = (false, eval ex X.env) :: starEach es X.env := by rfl) : PA X (ex :: es) (tma c (consM ma ms)) := pa_consM h hs st
theorem z_T {m : M D} (h : PE X ex (tm c m)) : PE X ex (tmo c (mT m)) := pe_mT h
theorem z_K {m : M D} (h : PE X ex (tm c m)) : PE X ex (tmo c (mK m)) := pe_mK h
end

/-! ### displays -/
def tds : List Opd → Option (List D)
  | [] => some []
  | .t d :: os => (tds os).map (d :: ·)
  | .v _ :: _ => none
theorem tds_tmps : ∀ {vs : List V} {os : List Opd} {ds : List D}, vs.length = os.length → tds os = some ds → tmps (vs.zip os) = vs.zip ds ∧ ds.length = os.length
  | [], [], _, _, h => by cases h; exact ⟨rfl, rfl⟩
  | v :: vs, .t d :: os, ds, hl, h => by
    obtain ⟨ds', h', rfl⟩ := Option.map_eq_some_iff.mp (show (tds os).map (d :: ·) = some ds from h)
    obtain ⟨e1, e2⟩ := tds_tmps (vs := vs) (by simpa using hl) h'
    exact ⟨by simp [tmps, e1], by simp [e2]⟩
  | _ :: _, .v _ :: _, _, _, h => by cases h
  | [], _ :: _, _, h, _ => by simp at h
  | _ :: _, [], _, h, _ => by simp at h
def tupM (ms : M (List Opd)) : M D := bnd ms fun os r => match tds os with
  | some ds => if ds.length ≤ 10000000 then some (.ok (.tup ds) r) else none
  | none => none
def lstM (ms : M (List Opd)) : M D := bnd ms fun os r => match tds os with
  | some ds => if ds.length ≤ 10000000 then some (.ok (.lst true ds) r) else none
  | none => none
section
variable {es : List Expr} {ms : M (List Opd)} {pos : Pos}
theorem z_tup {x1 : Nat} (h : PA X es (tma c ms)) : PE X (.Tuple es x1 pos) (tm c (tupM ms)) := pe_imp (pe_tup h) fun σ H Q q => by
  refine tma_mono (tk_bndA q) fun vs H1 ⟨os, hl, h1⟩ => ?_
  obtain ⟨r, e, x, n, hx, fin⟩ := h1
  dsimp only at hx
  split at hx
  · rename_i ds hd
    split at hx
    · rename_i hz
      cases hx
      obtain ⟨e1, e2⟩ := tds_tmps hl hd
      refine ⟨lim_ok (by rw [hl, ← e2]; exact hz), fun p hp => fin _ _ n.al ?_⟩
      have w := n.w
      rw [List.append_nil, e1] at w
      exact Wo.closeT (w.new hp) hp (by rw [hl, e2])
    · cases hx
  · cases hx
theorem z_lst (h : PA X es (tma c ms)) : PE X (.List es pos) (tm c (lstM ms)) := pe_imp (pe_lst h) fun σ H Q q => by
  refine tma_mono (tk_bndA q) fun vs H1 ⟨os, hl, h1⟩ => ?_
  obtain ⟨r, e, x, n, hx, fin⟩ := h1
  dsimp only at hx
  split at hx
  · rename_i ds hd
    split at hx
    · rename_i hz
      cases hx
      obtain ⟨e1, e2⟩ := tds_tmps hl hd
      refine ⟨lim_ok (by rw [hl, ← e2]; exact hz), fun p hp => fin _ _ n.al ?_⟩
      have w := n.w
      rw [List.append_nil, e1] at w
      exact Wo.closeL (w.new hp) (by rw [hl, e2])
    · cases hx
  · cases hx
end

/-! ### choices -/
def ifM {α : Type} (t : M D) (a b : M α) : M α := bnd t fun d => match d with
  | .bl true => a
  | .bl false => b
  | _ => fun _ => none
theorem ifM_tm {t a b : M D} (h : tm c (ifM t a b) σ H Q) : tm c t σ H fun v H1 => ∃ k, v = .bl k ∧ if k = true then tm c a σ H1 Q else tm c b σ H1 Q := by
  obtain ⟨r, e, x, n, hx, fin⟩ := h
  rcases bnd_cases hx with ⟨d, r1, h1, h2⟩ | ⟨C, ns, ds, r1, h1, rfl⟩
  · refine ⟨r, e, _, n, h1, fun v H1 a w => ?_⟩
    split at h2
    · exact ⟨true, w.bl List.mem_cons_self, iteT ⟨r1, e, x, ⟨a, Vok.nil, w.drop⟩, h2, fin⟩⟩
    · exact ⟨false, w.bl List.mem_cons_self, iteF ⟨r1, e, x, ⟨a, Vok.nil, w.drop⟩, h2, fin⟩⟩
    · cases h2
  · exact ⟨r, e, _, n, h1, fin⟩
theorem ifM_tB {t a b : M D} (h : tm c (ifM t a b) σ H Q) : tmB c t σ H fun k H1 => if k = true then tm c a σ H1 Q else tm c b σ H1 Q := by
  obtain ⟨r, e, x, n, hx, fin⟩ := h
  rcases bnd_cases hx with ⟨d, r1, h1, h2⟩ | ⟨C, ns, ds, r1, h1, rfl⟩
  · refine ⟨r, e, _, n, h1, ?_⟩
    split at h2
    · exact fun H1 a w => iteT ⟨r1, e, x, ⟨a, Vok.nil, w⟩, h2, fin⟩
    · exact fun H1 a w => iteF ⟨r1, e, x, ⟨a, Vok.nil, w⟩, h2, fin⟩
    · cases h2
  · exact ⟨r, e, _, n, h1, fin⟩
theorem ifM_BB {t a b : M D} {Q : Bool → Hp → Prop} (h : tmB c (ifM t a b) σ H Q) : tmB c t σ H fun k H1 => if k = true then tmB c a σ H1 Q else tmB c b σ H1 Q := by
  obtain ⟨r, e, x, n, hx, fin⟩ := h
  rcases bnd_cases hx with ⟨d, r1, h1, h2⟩ | ⟨C, ns, ds, r1, h1, rfl⟩
  · refine ⟨r, e, _, n, h1, ?_⟩
    split at h2
    · exact fun H1 a w => iteT ⟨r1, e, x, ⟨a, Vok.nil, w⟩, h2, fin⟩
    · exact fun H1 a w => iteF ⟨r1, e, x, ⟨a, Vok.nil, w⟩, h2, fin⟩
    · cases h2
  · exact ⟨r, e, _, n, h1, fin⟩
theorem tmB_mono {t : M D} {Q Q' : Bool → Hp → Prop} (h : tmB c t σ H Q) (k : ∀ b H', Q b H' → Q' b H') : tmB c t σ H Q' := by
  obtain ⟨r, e, x, n, hx, fin⟩ := h
  refine ⟨r, e, x, n, hx, ?_⟩
  cases x with
  | exc C ns ds r1 => exact fin
  | ok d r1 =>
    cases d with
    | bl b => exact fun H1 a w => k _ _ (fin H1 a w)
    | _ => exact fin
theorem ret_bl {b : Bool} (h : tm c (ret (.bl b)) σ H Q) : Q (.bl b) H := by
  obtain ⟨r, e, x, n, hx, fin⟩ := h
  cases hx
  have w0 : W c.G c.B H (e ++ envI σ r) := n.w
  exact fin _ H n.al (w0.add (Cp.triv fun F => by simp [Tr]))
theorem ret_blB {b : Bool} {Q : Bool → Hp → Prop} (h : tmB c (ret (.bl b)) σ H Q) : Q b H := by
  obtain ⟨r, e, x, n, hx, fin⟩ := h
  cases hx
  have w0 : W c.G c.B H (e ++ envI σ r) := n.w
  exact fin H n.al w0
def andM (a b : M D) : M D := ifM a b (ret (.bl false))
def orM (a b : M D) : M D := ifM a (ret (.bl true)) b
def notM (a : M D) : M D := ifM a (ret (.bl false)) (ret (.bl true))
section
variable {a b t : Expr} {ma mb mt : M D} {rest : List Expr} {pos : Pos}
theorem z_one {op : BoolOp} (h : PE X a (tm c ma)) : PE X (.BoolOp op [a] pos) (tm c ma) := pe_one h
theorem z_and (ha : PE X a (tm c ma)) (hb : PE X (.BoolOp .And (b :: rest) pos) (tm c mb)) : PE X (.BoolOp .And (a :: b :: rest) pos) (tm c (andM ma mb)) :=
  pe_imp (pe_and ha hb) fun σ H Q h => tm_mono (ifM_tm h) fun v H1 ⟨k, ev, q⟩ => ⟨k, ev, by
    cases k with
    | true => rw [if_pos rfl] at q ⊢; exact q
    | false => rw [if_neg (by decide)] at q ⊢; exact ret_bl q⟩
theorem z_or (ha : PE X a (tm c ma)) (hb : PE X (.BoolOp .Or (b :: rest) pos) (tm c mb)) : PE X (.BoolOp .Or (a :: b :: rest) pos) (tm c (orM ma mb)) :=
  pe_imp (pe_or ha hb) fun σ H Q h => tm_mono (ifM_tm h) fun v H1 ⟨k, ev, q⟩ => ⟨k, ev, by
    cases k with
    | true => rw [if_pos rfl] at q ⊢; exact ret_bl q
    | false => rw [if_neg (by decide)] at q ⊢; exact q⟩
theorem z_not (ha : PE X a (tm c ma)) : PE X (.UnaryOp .Not a pos) (tm c (notM ma)) :=
  pe_imp (pe_not ha) fun σ H Q h => tm_mono (ifM_tm h) fun v H1 ⟨k, ev, q⟩ => ⟨k, ev, by
    cases k with
    | true => rw [if_pos rfl] at q; exact ret_bl q
    | false => rw [if_neg (by decide)] at q; exact ret_bl q⟩
theorem z_ife (ht : PT X t (tmB c mt)) (ha : PE X a (tm c ma)) (hb : PE X b (tm c mb)) : PE X (.IfExp t a b pos) (tm c (ifM mt ma mb)) :=
  pe_imp (pe_ifExp ht ha hb) fun σ H Q h => ifM_tB h
/-! tests -/
theorem z_t (h : PE X t (tm c mt)) (he : ∀ whole, isTrue t X.env whole = (do let v ← whole; standAt t.pos; holding [v] (truthy v)) := by intro _; rfl) : PT X t (tmB c mt) := pt_tm h he
theorem z_tcmp {cop : CmpOp} {k : Bool} {f : List D → Option D} {ma mb : M Opd} (ho : OpR X (compareOp cop) (fun x y => rZ k c.G f [x, y])) (ha : PE X a (tmo c ma)) (hb : PE X b (tmo c mb)) (hm : behindInMarks cop b = false := by first | rfl | decide) :
    PT X (.Compare a [cop] [b] pos) (tmB c (op2 k f ma mb)) := pt_imp (pt_cmpR ho ha hb hm) fun σ H Q h => by
  have h' : tm c (op2 k f ma mb) σ H fun v H1 => ∃ k, v = .bl k ∧ Q k H1 := by
    obtain ⟨r, e, x, n, hx, fin⟩ := h
    refine ⟨r, e, x, n, hx, ?_⟩
    cases x with
    | exc C ns ds r1 => exact fin
    | ok d r1 =>
      cases d with
      | bl b => exact fun v H1 a w => ⟨b, w.bl List.mem_cons_self, fin H1 a w.drop⟩
      | _ => exact False.elim fin
  exact red2 h'
theorem z_tnot (ha : PT X a (tmB c ma)) : PT X (.UnaryOp .Not a pos) (tmB c (notM ma)) :=
  pt_imp (pt_not ha) fun σ H Q h => tmB_mono (ifM_BB h) fun k H1 q => by
    cases k with
    | true => rw [if_pos rfl] at q; exact ret_blB q
    | false => rw [if_neg (by decide)] at q; exact ret_blB q
theorem z_wand1 (ha : PT X a (tmB c ma)) : PW X (.BoolOp .And [a] pos) (tmB c ma) := pw_and1 ha
theorem z_wor1 (ha : PT X a (tmB c ma)) : PW X (.BoolOp .Or [a] pos) (tmB c ma) := pw_or1 ha
theorem z_wand (ha : PT X a (tmB c ma)) (hb : PW X (.BoolOp .And (b :: rest) pos) (tmB c mb)) : PW X (.BoolOp .And (a :: b :: rest) pos) (tmB c (andM ma mb)) :=
  pw_imp (pw_and ha hb) fun σ H Q h => tmB_mono (ifM_BB h) fun k H1 q => by
    cases k with
    | true => rw [if_pos rfl] at q ⊢; exact q
    | false => rw [if_neg (by decide)] at q ⊢; exact ret_blB q
theorem z_wor (ha : PT X a (tmB c ma)) (hb : PW X (.BoolOp .Or (b :: rest) pos) (tmB c mb)) : PW X (.BoolOp .Or (a :: b :: rest) pos) (tmB c (orM ma mb)) :=
  pw_imp (pw_or ha hb) fun σ H Q h => tmB_mono (ifM_BB h) fun k H1 q => by
    cases k with
    | true => rw [if_pos rfl] at q ⊢; exact ret_blB q
    | false => rw [if_neg (by decide)] at q ⊢; exact q
theorem z_w (h : PW X a (tmB c ma)) : PT X a (tmB c ma) := h.pt
end

/-! ### slices -/
def tpo (c : Ctx) (m : M Opd) : TO := fun σ H Q => tmo c m σ H fun v H' => (v = .non ∧ Q none H') ∨ ∃ i, v = .int i ∧ Q (some i) H'
def slcZ : List D → Option D
  | [d, .non, .non] => slcS none none [d]
  | [d, .int i, .non] => slcS (some i) none [d]
  | [d, .non, .int j] => slcS none (some j) [d]
  | [d, .int i, .int j] => slcS (some i) (some j) [d]
  | _ => none
def op3 (k : Bool) (f : List D → Option D) (a b d : M Opd) : M D := bnd a fun o => bnd b fun o' => bnd d fun o'' => opc k f [o, o', o'']
theorem red3 {k : Bool} {f : List D → Option D} {ma mb md : M Opd} (h : tm c (op3 k f ma mb md) σ H Q) : tmo c ma σ H fun x H1 => tmo c mb σ H1 fun y H2 => tmo c md σ H2 fun z H3 => rZ k c.G f [x, y, z] H3 Q :=
  tmo_mono (tk_bnd h) fun v H1 ⟨o, h1⟩ => tmo_mono (tk_bnd h1) fun u H2 ⟨o', h2⟩ => tmo_mono (tk_bnd h2) fun u H2 ⟨o'', h3⟩ => tk_opc opZ_rZ rfl (by simp) h3
section
variable {a : Expr} {lo hi : Option Expr} {ma ml mh : M Opd} {pos p2 : Pos}
def noB : M Opd := ret (.t .non)
def BdM (c : Ctx) (m : M Opd) : Prop := ∀ {σ : L2.St} {H : Hp} {Q : VK}, tmo c m σ H Q → tmo c m σ H fun v H1 => (v = .non ∨ ∃ i, v = .int i) ∧ Q v H1
structure PB (X : Cx) (c : Ctx) (e : Option Expr) (m : M Opd) : Prop where
  po : PO X e (tpo c m)
  bd : BdM c m
theorem z_no : PB X c none noB := ⟨⟨fun pins s σ H Q I h => po_none.run pins s σ H Q I (by
  obtain ⟨r, e, x, n, hx, fin⟩ := h
  cases hx
  have w0 : W c.G c.B H (e ++ envI σ r) := n.w
  have := fin .non H n.al (fun x i m => by simp at m) (w0.add (Cp.triv fun F => by simp [Tr]))
  rcases this with ⟨_, q⟩ | ⟨i, q, _⟩
  · exact q
  · cases q)⟩, fun {σ H Q} h => by
  obtain ⟨r, e, x, n, hx, fin⟩ := h
  cases hx
  exact ⟨r, e, _, n, rfl, fun v H1 a vk w => ⟨.inl (W.non w (by simp [tmps])), fin v H1 a vk w⟩⟩⟩
def intB (m : M Opd) : M Opd := bnd m fun o r => match opdD r o with
  | some (.int i) => some (.ok (.t (.int i)) r)
  | _ => none
theorem tmo_intB {m : M Opd} {Q : VK} (h : tmo c (intB m) σ H Q) : tmo c m σ H fun v H1 => (∃ i, v = .int i) ∧ Q v H1 := by
  obtain ⟨r, e, x, n, hx, fin⟩ := h
  rcases bnd_cases hx with ⟨d, r1, h1, h2⟩ | ⟨C, ns, ds, r1, h1, rfl⟩
  · refine ⟨r, e, _, n, h1, fun v H1 a vk w => ?_⟩
    split at h2
    · rename_i i hd
      cases h2
      have nn : Now c σ H1 [(v, d)] r1 e := ⟨a, vk, w⟩
      have m1 := opd_mem nn List.mem_cons_self hd
      have ev := W.int w m1
      refine ⟨⟨i, ev⟩, fin v H1 a (fun x j m => by simp at m) ?_⟩
      have w2 := w.add (Cp.of m1 rfl)
      have q : ((v, D.int i) :: (tmps [(v, d)] ++ (e ++ envI σ r1))).Perm (tmps [(v, d)] ++ ((v, D.int i) :: (e ++ envI σ r1))) := List.perm_middle.symm
      exact W.drops (w2.perm q)
    · cases h2
  · exact ⟨r, e, _, n, h1, fin⟩
theorem bd_intB {m : M Opd} : BdM c (intB m) := fun {σ H Q} h => by
  obtain ⟨r, e, x, n, hx, fin⟩ := h
  refine ⟨r, e, x, n, hx, ?_⟩
  rcases bnd_cases hx with ⟨d, r1, h1, h2⟩ | ⟨C, ns, ds, r1, h1, rfl⟩
  · split at h2
    · cases h2
      exact fun v H1 a vk w => ⟨.inr ⟨_, W.int w (List.mem_append_left _ List.mem_cons_self)⟩, fin v H1 a vk w⟩
    · cases h2
  · exact fin
theorem z_bd {m : M Opd} {b : Expr} (h : PE X b (tmo c m)) : PB X c (some b) (intB m) := ⟨⟨fun pins s σ H Q I hw => (po_some h).run pins s σ H Q I (tmo_mono (tmo_intB hw) fun v H1 ⟨⟨i, ev⟩, q⟩ => by
  rcases q with ⟨q, _⟩ | ⟨j, q, q2⟩
  · rw [ev] at q; cases q
  · exact ⟨j, q, q2⟩)⟩, bd_intB⟩
theorem z_slc (hG : c.G.K = X.K) (ha : PE X a (tmo c ma)) (hl : PB X c lo ml) (hh : PB X c hi mh) : PE X (.Subscript a (.Slice lo hi none p2) pos) (tm c (op3 true slcZ ma ml mh)) :=
  pe_imp (pe_slice (slc_ok hG) ha hl.po hh.po) fun σ H Q h => tmo_mono (red3 h) fun x H1 h1 => tmo_mono (hl.bd h1) fun y H2 ⟨hy, h2⟩ => by
    have go : ∀ (lo : Option Int), (∀ z H3, rZ true c.G slcZ [x, y, z] H3 Q → (z = .non ∧ rZ true c.G (slcS lo none) [x] H3 Q) ∨ ∃ j, z = .int j ∧ rZ true c.G (slcS lo (some j)) [x] H3 Q) → tpo c mh σ H2 fun u H3 => rZ true c.G (slcS lo u) [x] H3 Q := fun lo k => tmo_mono h2 fun z H3 q => k z H3 q
    have key : ∀ z H3, rZ true c.G slcZ [x, y, z] H3 Q → (y = .non ∧ ((z = .non ∧ rZ true c.G (slcS none none) [x] H3 Q) ∨ ∃ j, z = .int j ∧ rZ true c.G (slcS none (some j)) [x] H3 Q)) ∨
        ∃ i, y = .int i ∧ ((z = .non ∧ rZ true c.G (slcS (some i) none) [x] H3 Q) ∨ ∃ j, z = .int j ∧ rZ true c.G (slcS (some i) (some j)) [x] H3 Q) := by
      intro z H3 q
      obtain ⟨B, g, ds, d, w, hl, hm, hk, hf, q⟩ := q
      match ds, hl with
      | [d1, d2, d3], _ =>
      have m1 : (x, d1) ∈ g := hm _ (by simp)
      have m2 : (y, d2) ∈ g := hm _ (by simp)
      have m3 : (z, d3) ∈ g := hm _ (by simp)
      have mk : ∀ {lo hi : Option Int}, slcS lo hi [d1] = some d → rZ true c.G (slcS lo hi) [x] H3 Q := fun {lo hi} hs => ⟨B, g, [d1], d, w, rfl, by simp; exact m1, fun _ y hy => hk rfl y (by simp at hy; simp [hy]), hs, q⟩
      unfold slcZ at hf
      split at hf
      · rename_i e; cases e; exact .inl ⟨w.non m2, .inl ⟨w.non m3, mk hf⟩⟩
      · rename_i e; cases e; exact .inr ⟨_, w.int m2, .inl ⟨w.non m3, mk hf⟩⟩
      · rename_i e; cases e; exact .inl ⟨w.non m2, .inr ⟨_, w.int m3, mk hf⟩⟩
      · rename_i e; cases e; exact .inr ⟨_, w.int m2, .inr ⟨_, w.int m3, mk hf⟩⟩
      · cases hf
    rcases hy with rfl | ⟨i, rfl⟩
    · exact .inl ⟨rfl, go none fun z H3 q => by
        rcases key z H3 q with ⟨_, q⟩ | ⟨i, q, _⟩
        · exact q
        · cases q⟩
    · exact .inr ⟨i, rfl, go (some i) fun z H3 q => by
        rcases key z H3 q with ⟨q, _⟩ | ⟨i', q, q2⟩
        · cases q
        · cases q; exact q2⟩
def revS : List D → Option D
  | [.lst _ l] => some (.lst true l.reverse)
  | _ => none
theorem z_rev {k : Nat} {p1 p3 p4 : Pos} (ha : PE X a (tmo c ma)) : PE X (.Subscript a (.Slice none none (some (.UnaryOp .USub (.Constant (.int 1) k p1) p3)) p4) pos) (tm c (op1 true revS ma)) :=
  pe_imp (pe_revL ha) fun σ H Q h => tmo_mono (red1 h) fun x H1 q => by
    obtain ⟨B, g, ds, d, w, hl, hm, hk, hf, q⟩ := q
    obtain ⟨d1, rfl⟩ := len1 hl
    have m1 := mem1 hm
    have k1 : kn d1 = true := hk rfl _ (by simp)
    unfold revS at hf
    split at hf
    · rename_i o l e
      cases e
      cases hf
      obtain ⟨l1, xs, e1, h1, c1⟩ := w.lst m1
      exact ⟨l1, xs, e1, SqL.of h1, fun p hp => q _ _ (newL w hp (c1.kc k1).reverse)⟩
    · cases hf
end
end Z

set_option Elab.async false
set_option linter.all false
set_option maxRecDepth 100000
set_option maxHeartbeats 4000000
/-! Z7: calls of the text's own defs. -/
namespace Z
open PySem PySem.Spec PyProof.Rows L2
mutual
/-- nothing that can change lies in it that is not owned -/
def allOwn : D → Bool
  | .tup l => allOwns l
  | .lst o l => o && allOwns l
  | .dct o _ l => o && allOwns l
  | .ins o _ _ l => o && allOwns l
  | .xcp _ _ l => allOwns l
  | _ => true
def allOwns : List D → Bool
  | [] => true
  | d :: r => allOwn d && allOwns r
end
variable {G : Cfg} {H H' : Hp} {F F' : Addr → Prop}
mutual
theorem Tr.allOwn : ∀ {d : D} {v : V} {O : List Addr}, allOwn d = true → Tr G H F d v O → Tr G H F' d v O
  | .non, _, _, _, h => by simp only [Tr] at h ⊢; exact h
  | .bl _, _, _, _, h => by simp only [Tr] at h ⊢; exact h
  | .int _, _, _, _, h => by simp only [Tr] at h ⊢; exact h
  | .str _, _, _, _, h => by simp only [Tr] at h ⊢; exact h
  | .ty _, _, _, _, h => by simp only [Tr] at h ⊢; exact h
  | .cls _, _, _, _, h => by simp only [Tr] at h ⊢; exact h
  | .xcp C ns l, _, _, n, h => by
    simp only [Tr] at h ⊢
    obtain ⟨a, d, xs, e, e1, e2, e3, h⟩ := h
    exact ⟨a, d, xs, e, e1, e2, e3, TrL.allOwns (by simpa [Z.allOwn] using n) h⟩
  | .scr _, _, _, _, h => by simp only [Tr] at h ⊢; exact h
  | .tup l, _, _, n, h => by
    simp only [Tr] at h ⊢
    obtain ⟨a, xs, e, e1, h⟩ := h
    exact ⟨a, xs, e, e1, TrL.allOwns (by simpa [Z.allOwn] using n) h⟩
  | .lst true l, _, _, n, h => by
    simp only [Tr] at h ⊢
    obtain ⟨a, xs, O', e, e1, h, e2⟩ := h
    exact ⟨a, xs, O', e, e1, TrL.allOwns (by simpa [Z.allOwn] using n) h, e2⟩
  | .lst false l, _, _, n, h => by simp [Z.allOwn] at n
  | .dct true ks l, _, _, n, h => by
    simp only [Tr] at h ⊢
    obtain ⟨a, xs, O', e, e1, h, e2⟩ := h
    exact ⟨a, xs, O', e, e1, TrL.allOwns (by simpa [Z.allOwn] using n) h, e2⟩
  | .dct false ks l, _, _, n, h => by simp [Z.allOwn] at n
  | .ins true C ns l, _, _, n, h => by
    simp only [Tr] at h ⊢
    obtain ⟨a, xs, O', e, e1, h, e2⟩ := h
    exact ⟨a, xs, O', e, e1, TrL.allOwns (by simpa [Z.allOwn] using n) h, e2⟩
  | .ins false C ns l, _, _, n, h => by simp [Z.allOwn] at n
theorem TrL.allOwns : ∀ {l : List D} {xs : List V} {O : List Addr}, allOwns l = true → TrL G H F l xs O → TrL G H F' l xs O
  | [], _, _, _, h => by simp only [TrL] at h ⊢; exact h
  | d :: r, _, _, n, h => by
    have n' : Z.allOwn d = true ∧ Z.allOwns r = true := by simpa [Z.allOwns] using n
    simp only [TrL] at h ⊢
    obtain ⟨x, ys, O1, O2, e, h1, h2, e2⟩ := h
    exact ⟨x, ys, O1, O2, e, Tr.allOwn n'.1 h1, TrL.allOwns n'.2 h2, e2⟩
end
theorem Own.allOwn : ∀ {g : List It} {O : List Addr}, (∀ p ∈ g, Z.allOwn p.2 = true) → Own G H F g O → Own G H F' g O
  | [], _, _, h => h
  | p :: r, _, n, h => by
    obtain ⟨O1, O2, h1, h2, e⟩ := h
    exact ⟨O1, O2, h1.allOwn (n p List.mem_cons_self), Own.allOwn (fun q hq => n q (List.mem_cons_of_mem _ hq)) h2, e⟩
theorem Own.memS : ∀ {g : List It} {O : List Addr}, Own G H F g O → ∀ p ∈ g, ∃ O1, Tr G H F p.2 p.1 O1 ∧ ∀ a ∈ O1, a ∈ O
  | [], _, _, _, m => nomatch m
  | q :: r, _, h, p, m => by
    obtain ⟨O1, O2, h1, h2, e⟩ := h
    subst e
    rcases List.mem_cons.mp m with rfl | m
    · exact ⟨O1, h1, fun a ha => List.mem_append_left _ ha⟩
    · obtain ⟨O3, t, s⟩ := Own.memS h2 p m
      exact ⟨O3, t, fun a ha => List.mem_append_right _ (s a ha)⟩
theorem Own.pure_ : ∀ {g : List It}, (∀ p ∈ g, Tr G H F p.2 p.1 []) → Own G H F g []
  | [], _ => rfl
  | p :: r, h => ⟨[], [], h p List.mem_cons_self, Own.pure_ fun q hq => h q (List.mem_cons_of_mem _ hq), rfl⟩

/-- what stands at a call, and behind it -/
theorem callW {B : Bs} {b : Bool} {ioI T rest : List It} {vs : List V} {ds : List D} (w : W G B H (ioI ++ (T ++ rest))) (hl : vs.length = ds.length) (hm : ∀ p ∈ vs.zip ds, p ∈ T ∨ p ∈ rest) (hb : b = false → ∀ p ∈ vs.zip ds, p ∈ T ∨ noOwn p.2 = true) :
    ∃ F' O', O'.Nodup ∧ (∀ a ∈ O', ¬ F' a) ∧ (∀ a, F' a → H a ≠ none) ∧ Own G H F' (ioI ++ vs.zip (ds.map freeze)) O' ∧ LamX.Tabs G.T H ∧
      ∀ res H', W G ⟨H, O', F'⟩ H' res → (b = true → ∀ p ∈ res, Z.allOwn p.2 = true) → W G B H' (res ++ rest) := by
  obtain ⟨F, O, w, h⟩ := w
  obtain ⟨Oio, O2, h1, h2, e⟩ := Own.app.mp h
  obtain ⟨OT, OR, h3, h4, e2⟩ := Own.app.mp h2
  subst e e2
  have nd := List.nodup_append.mp w.nd
  have nd2 := List.nodup_append.mp nd.2.1
  have inT : ∀ a ∈ OT, a ∈ Oio ++ (OT ++ OR) := fun a ha => List.mem_append_right _ (List.mem_append_left _ ha)
  have inR : ∀ a ∈ OR, a ∈ Oio ++ (OT ++ OR) := fun a ha => List.mem_append_right _ (List.mem_append_right _ ha)
  have inI : ∀ a ∈ Oio, a ∈ Oio ++ (OT ++ OR) := fun a ha => List.mem_append_left _ ha
  refine ⟨fun a => F a ∨ a ∈ OT ∨ (b = true ∧ a ∈ OR), Oio, nd.1, fun a ha hf => ?_, fun a hf => ?_, ?_, w.tb, fun res H' w2 hres => ?_⟩
  · rcases hf with hf | hf | ⟨_, hf⟩
    · exact w.dj a (inI a ha) hf
    · exact nd.2.2 a ha a (List.mem_append_left _ hf) rfl
    · exact nd.2.2 a ha a (List.mem_append_right _ hf) rfl
  · have ow : ∀ {O g}, Own G H F g O → a ∈ O → H a ≠ none := fun {O g} q hq => by
      obtain ⟨o, e, _⟩ := q.own a hq
      rw [e]; simp
    rcases hf with hf | hf | ⟨_, hf⟩
    · exact w.fd a hf
    · exact ow h3 hf
    · exact ow h4 hf
  · refine Own.app.mpr ⟨Oio, [], h1.mono fun a => Or.inl, Own.pure_ fun p hp => ?_, (List.append_nil _).symm⟩
    obtain ⟨i, hi⟩ := List.mem_iff_getElem?.mp hp
    rw [List.getElem?_zip_eq_some, List.getElem?_map] at hi
    obtain ⟨i1, i2⟩ := hi
    obtain ⟨d, hd, hd2⟩ := Option.map_eq_some_iff.mp i2
    have mz : (p.1, d) ∈ vs.zip ds := List.mem_of_getElem? (i := i) (by rw [List.getElem?_zip_eq_some]; exact ⟨i1, hd⟩)
    rw [← hd2]
    have inTc : (p.1, d) ∈ T → Tr G H (fun a => F a ∨ a ∈ OT ∨ (b = true ∧ a ∈ OR)) (freeze d) p.1 [] := fun m => by
      obtain ⟨O1, t, sb⟩ := h3.memS _ m
      exact t.freeze (fun a => Or.inl) fun a ha => .inr (.inl (sb a ha))
    rcases hm _ mz with m | m
    · exact inTc m
    · obtain ⟨O1, t, sb⟩ := h4.memS _ m
      cases b with
      | true => exact t.freeze (fun a => Or.inl) fun a ha => .inr (.inr ⟨rfl, sb a ha⟩)
      | false =>
        rcases hb rfl _ mz with m2 | n
        · exact inTc m2
        · rw [freeze_noOwn d n]
          have := t.noOwn n
          rw [this] at t
          exact t.mono fun a => Or.inl
  · obtain ⟨F2, O2, w2, h5⟩ := w2
    have nIo : ∀ a, F a → a ∉ Oio := fun a hf ha => w.dj a (inI a ha) hf
    have kpN : ∀ a o, H a = some o → a ∉ Oio → (∀ ps, o ≠ .tbl ps) → H' a = some o := w2.keep
    have th : ∀ a o, H a = some o → a ∉ Oio → H' a ≠ none := fun a o e hi => w2.there e hi
    have st : Stay Oio H H' := ⟨kpN, fun a ha o e => by
      obtain ⟨o', e', m⟩ := h1.own a ha
      rw [e] at e'; cases e'; exact m⟩
    have nR : ∀ a ∈ OR, a ∉ Oio := fun a ha hi => nd.2.2 a hi a (List.mem_append_right _ ha) rfl
    have h6 : Own G H' F rest OR := h4.stay st nIo nR
    have new : ∀ a, H a = none → B.H a = none ∨ a ∈ B.io := fun a ha => by
      by_cases hi : a ∈ B.io
      · exact .inr hi
      · cases q : B.H a with
        | none => exact .inl rfl
        | some o => exact absurd ha (w.there q hi)
    have own2 : ∀ a ∈ O2, H a = none ∨ a ∈ Oio := w2.own
    have djO : ∀ a ∈ O2, a ∉ OR := fun a ha hr => by
      rcases own2 a ha with q | q
      · obtain ⟨o, e, _⟩ := h4.own a hr
        rw [q] at e; cases e
      · exact nR a hr q
    have ndN : (O2 ++ OR).Nodup := List.nodup_append.mpr ⟨w2.nd, nd2.2.1, fun a ha b' hb' e => djO a ha (by rw [e]; exact hb')⟩
    have djF : ∀ a ∈ O2, ¬ F a := fun a ha hf => by
      rcases own2 a ha with q | q
      · exact w.fd a hf q
      · exact nIo a hf q
    have ownN : ∀ a ∈ O2 ++ OR, B.H a = none ∨ a ∈ B.io := fun a ha => by
      rcases List.mem_append.mp ha with ha | ha
      · rcases own2 a ha with q | q
        · exact new a q
        · exact w.own a (inI a q)
      · exact w.own a (inR a ha)
    have nioB : ∀ a o, B.H a = some o → a ∉ B.io → a ∉ Oio := fun a o e hi ha => by
      rcases w.own a (inI a ha) with q | q
      · rw [q] at e; cases e
      · exact hi q
    have keepN : ∀ a o, B.H a = some o → a ∉ B.io → (∀ ps, o ≠ .tbl ps) → H' a = some o := fun a o e hi nt => kpN a o (w.keep a o e hi nt) (nioB a o e hi) nt
    have tbsN : ∀ a ps, B.H a = some (.tbl ps) → a ∉ B.io → ∃ ps', H' a = some (.tbl ps') := fun a ps e hi => by
      obtain ⟨ps', e'⟩ := w.tbs a ps e hi
      exact w2.tbs a ps' e' (nioB a _ e hi)
    have fdN : ∀ a, F a → H' a ≠ none := fun a hf => by
      cases q : H a with
      | none => exact absurd q (w.fd a hf)
      | some o => exact th a o q (nIo a hf)
    cases b with
    | true =>
      refine ⟨F, O2 ++ OR, ⟨ndN, fun a ha hf => ?_, fdN, ownN, w.fz, keepN, tbsN, w2.tb⟩, Own.app.mpr ⟨O2, OR, h5.allOwn (hres rfl), h6, rfl⟩⟩
      rcases List.mem_append.mp ha with ha | ha
      · exact djF a ha hf
      · exact w.dj a (inR a ha) hf
    | false =>
      have fzq : ∀ a, F2 a → (F a ∨ a ∈ OT) ∨ H a = none ∨ a ∈ Oio := fun a hf => by
        rcases w2.fz a hf with (q | q | ⟨z, _⟩) | q | q
        · exact .inl (.inl q)
        · exact .inl (.inr q)
        · cases z
        · exact .inr (.inl q)
        · exact .inr (.inr q)
      refine ⟨fun a => F a ∨ F2 a, O2 ++ OR, ⟨ndN, fun a ha hf => ?_, fun a hf => hf.elim (fdN a) (w2.fd a), ownN, fun a hf => ?_, keepN, tbsN, w2.tb⟩, Own.app.mpr ⟨O2, OR, h5.mono fun a => Or.inr, h6.mono fun a => Or.inl, rfl⟩⟩
      · rcases hf with hf | hf
        · rcases List.mem_append.mp ha with ha | ha
          · exact djF a ha hf
          · exact w.dj a (inR a ha) hf
        · rcases List.mem_append.mp ha with ha | ha
          · exact w2.dj a ha hf
          · rcases fzq a hf with (q | q) | q | q
            · exact w.dj a (inR a ha) q
            · exact nd2.2.2 a q a ha rfl
            · obtain ⟨o, e, _⟩ := h4.own a ha
              rw [q] at e; cases e
            · exact nR a ha q
      · rcases hf with hf | hf
        · exact w.fz a hf
        · rcases fzq a hf with (q | q) | q | q
          · exact w.fz a q
          · exact .inr (w.own a (inT a q))
          · exact .inr (new a q)
          · exact .inr (w.own a (inI a q))

/-- a call's end -/
inductive FR where
  | ok (d : D) (io : List D)
  | exc (C : Str) (ns : List Str) (ds : List D) (io : List D)
def FinF (G : Cfg) (B : Bs) (vio : List V) (Q : VK) (E : XK) : FR → Prop
  | .ok d io => vio.length = io.length → ∀ v H', W G B H' ((v, d) :: vio.zip io) → Q v H'
  | .exc C ns ds io => vio.length = io.length → ∀ (vs : List V) (dx : Option Addr) H', vs.length = ds.length → W G B H' (vs.zip ds ++ vio.zip io) → XdAt H' dx ns vs → E (.ref (G.cls C)) dx H'
/-- a def's promise; the first nio arguments may be changed -/
def spZ (G : Cfg) (nio : Nat) (φ : List D → Option FR) : Sp := fun vs H Q E => ∃ (F : Addr → Prop) (O : List Addr) (ds : List D) (x : FR),
  vs.length = ds.length ∧ O.Nodup ∧ (∀ a ∈ O, ¬ F a) ∧ (∀ a, F a → H a ≠ none) ∧ Own G H F (vs.zip ds) O ∧ LamX.Tabs G.T H ∧ φ ds = some x ∧ FinF G ⟨H, O, F⟩ (vs.take nio) Q E x
/-! ### calls -/
variable {c : Ctx} {σ : L2.St} {l : Pend} {r : Rho} {e : List It} {X : Cx} {Q : VK}
/-- no slot among these holds what is owned -/
def frzOk (r : Rho) : List Opd → Bool
  | [] => true
  | .t _ :: os => frzOk r os
  | .v i :: os => (match r[i]? with | some (some d) => noOwn d | _ => false) && frzOk r os
def call0 (φ : List D → Option FR) (ms : M (List Opd)) : M D := bnd ms fun os r => match opdDs r os with
  | some ds => (match φ (ds.map freeze) with
    | some (.ok d []) => if (allOwn d || frzOk r os) = true then some (.ok d r) else none
    | _ => none)
  | none => none
/-- .. that may raise -/
def cax0 (φ : List D → Option FR) (ms : M (List Opd)) : M D := bnd ms fun os r => match opdDs r os with
  | some ds => (match φ (ds.map freeze) with
    | some (.ok d []) => if (allOwn d || frzOk r os) = true then some (.ok d r) else none
    | some (.exc C ns es []) => if (allOwns es || frzOk r os) = true then some (.exc C ns es r) else none
    | _ => none)
  | none => none
def call1 (φ : List D → Option FR) (ms : M (List Opd)) : M D := bnd ms fun os r => match os with
  | .v j :: os => (if os.all (fun o => match o with | .v i => i != j | _ => true) = true then (match r[j]?, opdDs r os with
    | some (some d0), some ds => (match φ (d0 :: ds.map freeze) with
      | some (.ok d [d1]) => if ((allOwn d && allOwn d1) || frzOk r os) = true then some (.ok d (r.set j (some d1))) else none
      | _ => none)
    | _, _ => none) else none)
  | _ => none
theorem frz_mem : ∀ {vs : List V} {os : List Opd} {ds : List D}, vs.length = os.length → opdDs r os = some ds → frzOk r os = true → ∀ p ∈ vs.zip ds, p ∈ tmps (vs.zip os) ∨ noOwn p.2 = true
  | [], _, _, _, _, _, p, m => by simp at m
  | v :: vs, [], _, h, _, _, _, _ => by simp at h
  | v :: vs, o :: os, ds, hl, h, hf, p, m => by
    unfold opdDs at h
    split at h
    · rename_i d ds' h1 h2
      cases h
      cases o with
      | t d0 =>
        cases h1
        rcases List.mem_cons.mp m with q | q
        · subst q; exact .inl List.mem_cons_self
        · rcases frz_mem (vs := vs) (os := os) (by simpa using hl) h2 hf p q with z | z
          · exact .inl (List.mem_cons_of_mem _ z)
          · exact .inr z
      | v i =>
        have hf' : (match r[i]? with | some (some d) => noOwn d | _ => false) = true ∧ frzOk r os = true := by simpa [frzOk] using hf
        rcases List.mem_cons.mp m with q | q
        · subst q
          refine .inr ?_
          have h1' : (r[i]?).join = some d := h1
          have := hf'.1
          split at this
          · rename_i d' e; rw [e] at h1'; cases h1'; exact this
          · cases this
        · rcases frz_mem (vs := vs) (os := os) (by simpa using hl) h2 hf'.2 p q with z | z
          · exact .inl z
          · exact .inr z
    · cases h
theorem opd_in : ∀ {vs : List V} {os : List Opd} {ds : List D} {env : List It}, vs.length = os.length → (∀ x i, (x, Opd.v i) ∈ vs.zip os → ∀ d, r[i]? = some (some d) → (x, d) ∈ env) → opdDs r os = some ds → ∀ p ∈ vs.zip ds, p ∈ tmps (vs.zip os) ∨ p ∈ env
  | [], _, _, _, _, _, _, p, m => by simp at m
  | v :: vs, [], _, _, h, _, _, _, _ => by simp at h
  | v :: vs, o :: os, ds, env, hl, hv, h, p, m => by
    unfold opdDs at h
    split at h
    · rename_i d ds' h1 h2
      cases h
      have ih := opd_in (vs := vs) (os := os) (env := env) (by simpa using hl) (fun x i m => hv x i (List.mem_cons_of_mem _ m)) h2
      cases o with
      | t d0 =>
        cases h1
        rcases List.mem_cons.mp m with q | q
        · subst q; exact .inl List.mem_cons_self
        · rcases ih p q with z | z
          · exact .inl (List.mem_cons_of_mem _ z)
          · exact .inr z
      | v i =>
        rcases List.mem_cons.mp m with q | q
        · subst q
          have h1' : (r[i]?).join = some d := h1
          refine .inr (hv v i List.mem_cons_self d ?_)
          cases q : r[i]? with
          | none => rw [q] at h1'; cases h1'
          | some y => rw [q] at h1'; rw [show y = some d from h1']
        · exact ih p q
    · cases h
theorem opdDs_len2 {os : List Opd} {ds : List D} (h : opdDs r os = some ds) : ds.length = os.length := opdDs_len h
theorem allOwns_mem : ∀ {es : List D} {vs : List V}, allOwns es = true → ∀ p ∈ vs.zip es, allOwn p.2 = true
  | [], vs, _, p, m => by simp at m
  | _ :: _, [], _, p, m => by simp at m
  | d :: es, v :: vs, h, p, m => by
    have h' : allOwn d = true ∧ allOwns es = true := by simpa [allOwns] using h
    rcases List.mem_cons.mp m with q | q
    · subst q; exact h'.1
    · exact allOwns_mem h'.2 p q
def EFalse : XK := fun _ _ _ => False
section
variable {x : Str} {p pos : Pos} {ex : Expr} {es : List Expr} {ms : M (List Opd)} {φ : List D → Option FR} {k kk : Nat} {f : Addr} {fd : FuncData} {ps : List Str}
theorem red_call0 {H : Hp} (h : tm c (call0 φ ms) σ H Q) : tCall (spZ c.G 0 φ) [] EFalse (tma c ms) σ H Q := by
  refine tma_mono (tk_bndA h) fun vs H1 ⟨os, hl, r, e, x, n, hx, fin⟩ => ?_
  rw [List.append_nil]
  dsimp only at hx
  split at hx
  · rename_i ds hd
    have w : W c.G c.B H1 ([] ++ (tmps (vs.zip os) ++ (e ++ envI σ r))) := by
      have := n.w
      rw [List.append_nil] at this
      exact this
    have hlen : vs.length = ds.length := by rw [hl, opdDs_len hd]
    have inn : ∀ p ∈ vs.zip ds, p ∈ tmps (vs.zip os) ∨ p ∈ e ++ envI σ r := opd_in hl (fun y i m d hd => List.mem_append_right _ (List.mem_of_getElem? (envI_get (n.vok y i (by rw [List.append_nil]; exact m)) hd))) hd
    split at hx
    · rename_i d hphi
      split at hx
      · rename_i hc
        cases hx
        have hb : allOwn d = false → ∀ p ∈ vs.zip ds, p ∈ tmps (vs.zip os) ∨ noOwn p.2 = true := fun hf => frz_mem hl hd (by rw [hf] at hc; simpa using hc)
        obtain ⟨F', O', c1, c2, c3, c4, c4t, c5⟩ := callW (b := allOwn d) w hlen inn hb
        refine ⟨F', O', ds.map freeze, _, by simp [hlen], c1, c2, c3, c4, c4t, hphi, fun _ v H' w2 => ?_⟩
        exact fin v H' n.al (c5 _ _ w2 fun hb p hp => by simp at hp; rw [hp]; exact hb)
      · cases hx
    · cases hx
  · cases hx
theorem passesF : Passes (L2.CX X.prog X.w) X EFalse := fun _ _ _ _ _ _ _ h => by
  obtain ⟨_, _, _, _, _, _, _, _, _, _, _, _, z⟩ := h
  exact z.elim
theorem z_call0 (Fn : FnOk X.prog X.w X.K X.mg X.base (L2.CX X.prog X.w) k f fd ps (spZ c.G 0 φ)) (hr : Room kk X.A) (hkk : k ≤ kk) (hb : Binds X.K fd ps []) (hm : X.mg x = some (.ref f)) (hk : PySem.W.keepIn X.K (.ref f) = true) (ha : PA X (ex :: es) (tma c ms)) (hg : Gl X x := by rfl)
    (hdb : (x == ("__debug__" : Str)) = false := by decide) (he : starEach (ex :: es) X.env = (false, eval ex X.env) :: starEach es X.env := by rfl) (hpl : (backTo pos (starEach es X.env)).any (·.1) = false := by rfl) :
    PE X (.Call (.Name x p) (ex :: es) [] pos) (tm c (call0 φ ms)) := 
  pe_imp (pe_call (E := EFalse) Fn (hr.mono hkk) hg hm hk hb .nil passesF ha hdb he hpl) fun σ H Q h => red_call0 h
theorem red_cax0 {H : Hp} (h : tm c (cax0 φ ms) σ H Q) : tCallS (spZ c.G 0 φ) c.E (tma c ms) σ H Q := by
  refine tma_mono (tk_bndA h) fun vs H1 ⟨os, hl, r, e, x, n, hx, fin⟩ => ?_
  dsimp only at hx
  split at hx
  · rename_i ds hd
    have w : W c.G c.B H1 ([] ++ (tmps (vs.zip os) ++ (e ++ envI σ r))) := by
      have := n.w
      rw [List.append_nil] at this
      exact this
    have hlen : vs.length = ds.length := by rw [hl, opdDs_len hd]
    have inn : ∀ p ∈ vs.zip ds, p ∈ tmps (vs.zip os) ∨ p ∈ e ++ envI σ r := opd_in hl (fun y i m d hd => List.mem_append_right _ (List.mem_of_getElem? (envI_get (n.vok y i (by rw [List.append_nil]; exact m)) hd))) hd
    split at hx
    · rename_i d hphi
      split at hx
      · rename_i hc
        cases hx
        have hb : allOwn d = false → ∀ p ∈ vs.zip ds, p ∈ tmps (vs.zip os) ∨ noOwn p.2 = true := fun hf => frz_mem hl hd (by rw [hf] at hc; simpa using hc)
        obtain ⟨F', O', c1, c2, c3, c4, c4t, c5⟩ := callW (b := allOwn d) w hlen inn hb
        refine ⟨F', O', ds.map freeze, _, by simp [hlen], c1, c2, c3, c4, c4t, hphi, fun _ v H' w2 => ?_⟩
        exact fin v H' n.al (c5 _ _ w2 fun hb p hp => by simp at hp; rw [hp]; exact hb)
      · cases hx
    · rename_i C ns es2 hphi
      split at hx
      · rename_i hc
        cases hx
        have hb : allOwns es2 = false → ∀ p ∈ vs.zip ds, p ∈ tmps (vs.zip os) ∨ noOwn p.2 = true := fun hf => frz_mem hl hd (by rw [hf] at hc; simpa using hc)
        obtain ⟨F', O', c1, c2, c3, c4, c4t, c5⟩ := callW (b := allOwns es2) w hlen inn hb
        refine ⟨F', O', ds.map freeze, _, by simp [hlen], c1, c2, c3, c4, c4t, hphi, fun _ ws dx H' h1 h2 h3 => ?_⟩
        refine fin ws dx H' n.al h1 (c5 _ _ (by simpa using h2) fun hb p hp => allOwns_mem hb p hp) h3
      · cases hx
    · cases hx
  · cases hx
theorem z_cax0 (tk : Takes X (fun cls d σ H => c.E σ cls d H)) (Fn : FnOk X.prog X.w X.K X.mg X.base (L2.CX X.prog X.w) k f fd ps (spZ c.G 0 φ)) (hr : Room kk X.A) (hkk : k ≤ kk) (hb : Binds X.K fd ps []) (hm : X.mg x = some (.ref f)) (hk : PySem.W.keepIn X.K (.ref f) = true) (ha : PA X (ex :: es) (tma c ms)) (hg : Gl X x := by rfl)
    (hdb : (x == ("__debug__" : Str)) = false := by decide) (he : starEach (ex :: es) X.env = (false, eval ex X.env) :: starEach es X.env := by rfl) (hpl : (backTo pos (starEach es X.env)).any (·.1) = false := by rfl) :
    PE X (.Call (.Name x p) (ex :: es) [] pos) (tm c (cax0 φ ms)) :=
  pe_imp (pe_callS Fn (hr.mono hkk) hg hm hk hb (fun σ => passAt tk σ) ha hdb he hpl) fun σ H Q h => red_cax0 h
theorem red_call1 {H : Hp} (h : tm c (call1 φ ms) σ H Q) : tCall (spZ c.G 1 φ) [] EFalse (tma c ms) σ H Q := by
  refine tma_mono (tk_bndA h) fun vs H1 ⟨os, hl, r, e, x, n, hx, fin⟩ => ?_
  rw [List.append_nil]
  dsimp only at hx
  split at hx
  · rename_i j os'
    split at hx
    · rename_i hne
      match vs, hl with
      | v0 :: vs', hl =>
      have hl' : vs'.length = os'.length := by simpa using hl
      have nv := n.vok
      rw [List.append_nil] at nv
      have s0 : σ[j]? = some (some v0) := nv v0 j List.mem_cons_self
      split at hx
      · rename_i d0 ds hj hd
        have w : W c.G c.B H1 ((tmps (vs'.zip os') ++ e) ++ envI σ r) := by
          have := n.w
          rw [List.append_nil, ← List.append_assoc] at this
          exact this
        have w1 := w.take n.al.al s0 hj
        have w2 : W c.G c.B H1 ([(v0, d0)] ++ (tmps (vs'.zip os') ++ (e ++ envI σ (r.set j none)))) := by
          rw [← List.append_assoc (tmps _)]
          exact w1
        have hlen : vs'.length = ds.length := by rw [hl', opdDs_len hd]
        have inn : ∀ p ∈ vs'.zip ds, p ∈ tmps (vs'.zip os') ∨ p ∈ e ++ envI σ (r.set j none) := opd_in hl' (fun y i m d hd => by
          refine List.mem_append_right _ (List.mem_of_getElem? (i := i) (envI_get (nv y i (List.mem_cons_of_mem _ m)) ?_))
          have := List.all_eq_true.mp hne _ (List.of_mem_zip m).2
          rw [List.getElem?_set_ne (by intro e; subst e; simp at this)]
          exact hd) hd
        have jl : j < (r.set j none).length := by
          rw [List.length_set]
          exact (List.getElem?_eq_some_iff.mp hj).1
        have back : ∀ {res : List It} {d1 : D} {H' : Hp}, W c.G c.B H' ((res ++ [(v0, d1)]) ++ (e ++ envI σ (r.set j none))) → Alx c σ (r.set j (some d1)) ∧ W c.G c.B H' (res ++ (e ++ envI σ (r.set j (some d1)))) := fun {res d1 H'} w3 => by
          have w4 : W c.G c.B H' ((v0, d1) :: ((res ++ e) ++ envI σ (r.set j none))) := w3.perm (by
            rw [List.append_assoc, List.append_assoc res]
            exact List.perm_middle)
          have w5 := w4.put (i := j) (n.al.al.setR (y := none) fun z => by simp at z) jl
          rw [set_self_of s0, List.set_set] at w5
          exact ⟨n.al.setR s0, by rw [← List.append_assoc]; exact w5⟩
        split at hx
        · rename_i d d1 hphi
          split at hx
          · rename_i hc
            cases hx
            have hb : (allOwn d && allOwn d1) = false → ∀ p ∈ vs'.zip ds, p ∈ tmps (vs'.zip os') ∨ noOwn p.2 = true := fun hf => frz_mem hl' hd (by rw [hf] at hc; simpa using hc)
            obtain ⟨F', O', c1, c2, c3, c4, c4t, c5⟩ := callW (b := allOwn d && allOwn d1) w2 hlen inn hb
            refine ⟨F', O', d0 :: ds.map freeze, _, by simp [hlen], c1, c2, c3, c4, c4t, hphi, fun _ v H' w2 => ?_⟩
            obtain ⟨a3, w3⟩ := back (res := [(v, d)]) (c5 _ _ w2 fun hb p hp => by
              have hb' : allOwn d = true ∧ allOwn d1 = true := by simpa using hb
              have hp' : p = (v, d) ∨ p = (v0, d1) := by simpa using hp
              rcases hp' with hp | hp
              · rw [hp]; exact hb'.1
              · rw [hp]; exact hb'.2)
            exact fin v H' a3 w3
          · cases hx
        · cases hx
      · cases hx
    · cases hx
  · cases hx
theorem z_call1 (Fn : FnOk X.prog X.w X.K X.mg X.base (L2.CX X.prog X.w) k f fd ps (spZ c.G 1 φ)) (hr : Room kk X.A) (hkk : k ≤ kk) (hb : Binds X.K fd ps []) (hm : X.mg x = some (.ref f)) (hk : PySem.W.keepIn X.K (.ref f) = true) (ha : PA X (ex :: es) (tma c ms)) (hg : Gl X x := by rfl)
    (hdb : (x == ("__debug__" : Str)) = false := by decide) (he : starEach (ex :: es) X.env = (false, eval ex X.env) :: starEach es X.env := by rfl) (hpl : (backTo pos (starEach es X.env)).any (·.1) = false := by rfl) :
    PE X (.Call (.Name x p) (ex :: es) [] pos) (tm c (call1 φ ms)) := 
  pe_imp (pe_call (E := EFalse) Fn (hr.mono hkk) hg hm hk hb .nil passesF ha hdb he hpl) fun σ H Q h => red_call1 h
end
end Z

set_option Elab.async false
set_option linter.all false
set_option maxRecDepth 100000
set_option maxHeartbeats 4000000
/-! Z8: statements, targets. -/
namespace Z
open PySem PySem.Spec PyProof.Rows L2
inductive Out where
  | nx (r : Rho) | rt (d : D) (r : Rho) | bk (r : Rho) | ct (r : Rho)
  | exc (C : Str) (ns : List Str) (ds : List D) (r : Rho)
abbrev MS := Rho → Option Out
def FinS (c : Ctx) (e : List It) (N : Ends) : Out → Prop
  | .nx r => ∀ σ' H', Alx c σ' r → W c.G c.B H' (e ++ envI σ' r) → N.nx σ' H'
  | .bk r => ∀ σ' H', Alx c σ' r → W c.G c.B H' (e ++ envI σ' r) → N.bk σ' H'
  | .ct r => ∀ σ' H', Alx c σ' r → W c.G c.B H' (e ++ envI σ' r) → N.ct σ' H'
  | .rt d r => ∀ v σ' H', Alx c σ' r → W c.G c.B H' ((v, d) :: (e ++ envI σ' r)) → N.rt v H'
  | .exc C ns ds r => ∀ σ', PostX c σ' e C ns ds r
def tS (c : Ctx) (m : MS) : TS := fun N σ H => ∃ r e x, Now c σ H [] r e ∧ m r = some x ∧ FinS c e N x
variable {c : Ctx} {σ : L2.St} {H : Hp} {l : Pend} {r : Rho} {e : List It} {X : Cx} {Q : VK} {N : Ends} {nio : Nat}
def nxS : MS := fun r => some (.nx r)
def bkS : MS := fun r => some (.bk r)
def ctS : MS := fun r => some (.ct r)
def nevS : MS := fun _ => none
def seqS (a b : MS) : MS := fun r => match a r with
  | some (.nx r1) => b r1
  | x => x
/-- a value, then a statement's end -/
def bndS {α : Type} (m : M α) (f : α → MS) : MS := fun r => match m r with
  | some (.ok a r1) => f a r1
  | some (.exc C ns ds r1) => some (.exc C ns ds r1)
  | none => none
theorem bndS_cases {α : Type} {m : M α} {f : α → MS} {x : Out} (h : bndS m f r = some x) : (∃ a r1, m r = some (.ok a r1) ∧ f a r1 = some x) ∨ ∃ C ns ds r1, m r = some (.exc C ns ds r1) ∧ x = .exc C ns ds r1 := by
  unfold bndS at h
  cases q : m r with
  | none => rw [q] at h; cases h
  | some y =>
    rw [q] at h
    cases y with
    | ok a r1 => exact .inl ⟨a, r1, rfl, h⟩
    | exc C ns ds r1 => cases h; exact .inr ⟨C, ns, ds, r1, rfl, rfl⟩
theorem tS_bnd {m : M D} {f : D → MS} (h : tS c (bndS m f) N σ H) : tm c m σ H fun v H1 => ∃ r e d x, Alx c σ r ∧ W c.G c.B H1 ((v, d) :: (e ++ envI σ r)) ∧ f d r = some x ∧ FinS c e N x := by
  obtain ⟨r, e, x, n, hx, fin⟩ := h
  rcases bndS_cases hx with ⟨d, r1, h1, h2⟩ | ⟨C, ns, ds, r1, h1, rfl⟩
  · exact ⟨r, e, _, n, h1, fun v H1 a w => ⟨r1, e, d, x, a, w, h2, fin⟩⟩
  · exact ⟨r, e, _, n, h1, fin σ⟩
theorem tS_bndA {m : M (List Opd)} {f : List Opd → MS} (h : tS c (bndS m f) N σ H) : tma c m σ H fun vs H1 => ∃ r e os x, vs.length = os.length ∧ Now c σ H1 (vs.zip os) r e ∧ f os r = some x ∧ FinS c e N x := by
  obtain ⟨r, e, x, n, hx, fin⟩ := h
  rcases bndS_cases hx with ⟨d, r1, h1, h2⟩ | ⟨C, ns, ds, r1, h1, rfl⟩
  · exact ⟨r, e, _, n, h1, fun v H1 hl a vk w => ⟨r1, e, d, x, hl, ⟨a, vk, w⟩, h2, fin⟩⟩
  · exact ⟨r, e, _, n, h1, fin σ⟩
def ifS (t : M D) (a b : MS) : MS := bndS t fun d => match d with
  | .bl true => a
  | .bl false => b
  | _ => fun _ => none
def retS (m : M D) : MS := bndS m fun d r => some (.rt d r)
def retV (i : Nat) : MS := fun r => match r[i]? with
  | some (some d) => some (.rt d (r.set i none))
  | _ => none
def exS (m : M D) : MS := bndS m fun _ r => some (.nx r)
def setS (i : Nat) (m : M D) : MS := bndS m fun d r => if i < r.length then some (.nx (r.set i (some d))) else none
/-- a loop, so many turns at most -/
def whileS (t : M D) (b : MS) : Nat → MS
  | 0 => fun _ => none
  | n + 1 => bndS t fun d r1 => match d with
    | .bl true => (match b r1 with
      | some (.nx r2) => whileS t b n r2
      | some (.ct r2) => whileS t b n r2
      | some (.bk r2) => some (.nx r2)
      | x => x)
    | .bl false => some (.nx r1)
    | _ => none
section
variable {st : Stmt} {rest sa sb : List Stmt} {m ma mb : MS} {ex t : Expr} {mt me : M D} {pos : Pos} {x : Str} {i : Nat}
theorem z_snil : PSs X [] (tS c nxS) := pss_imp pss_nil fun N σ H ⟨r, e, x, n, hx, fin⟩ => by
  cases hx
  exact fin σ H n.al n.w
theorem seq_red (h : tS c (seqS ma mb) N σ H) : tSeq (tS c ma) (tS c mb) N σ H := by
  obtain ⟨r, e, x, n, hx, fin⟩ := h
  unfold seqS at hx
  cases q : ma r with
  | none => rw [q] at hx; cases hx
  | some y =>
    rw [q] at hx
    refine ⟨r, e, y, n, q, ?_⟩
    cases y with
    | nx r1 => exact fun σ' H' a w => ⟨r1, e, x, ⟨a, Vok.nil, w⟩, hx, fin⟩
    | bk r1 => cases hx; exact fin
    | ct r1 => cases hx; exact fin
    | rt d r1 => cases hx; exact fin
    | exc C ns ds r1 => cases hx; exact fin
theorem z_sc (h1 : PS X st (tS c ma)) (h2 : PSs X rest (tS c mb)) : PSs X (st :: rest) (tS c (seqS ma mb)) := pss_imp (pss_cons h1 h2) fun N σ H => seq_red
theorem z_s1 (h1 : PS X st (tS c ma)) : PSs X [st] (tS c ma) := pss_one h1
theorem z_never : PS X st (tS c nevS) := ps_imp ps_never fun N σ H ⟨r, e, x, n, hx, fin⟩ => by cases hx
theorem z_nevers : PSs X sa (tS c nevS) := pss_imp pss_never fun N σ H ⟨r, e, x, n, hx, fin⟩ => by cases hx
theorem z_pass : PS X (.Pass pos) (tS c nxS) := ps_imp ps_pass fun N σ H ⟨r, e, x, n, hx, fin⟩ => by
  cases hx
  exact fin σ H n.al n.w
theorem z_break : PS X (.Break pos) (tS c bkS) := ps_imp ps_break fun N σ H ⟨r, e, x, n, hx, fin⟩ => by
  cases hx
  exact fin σ H n.al n.w
theorem z_continue : PS X (.Continue pos) (tS c ctS) := ps_imp ps_continue fun N σ H ⟨r, e, x, n, hx, fin⟩ => by
  cases hx
  exact fin σ H n.al n.w
theorem z_ret (h : PE X ex (tm c me)) : PS X (.Return (some ex) pos) (tS c (retS me)) := ps_imp (ps_ret h) fun N σ H h => tm_mono (tS_bnd h) fun v H1 ⟨r, e, d, x, a, w, hx, fin⟩ => by
  cases hx
  exact fin v σ H1 a w
theorem z_retv (i : Nat) (hN : X.N[i]? = some x := by rfl) (hv : Vis X.env.scope x := by first | exact Or.inl rfl | exact Or.inr (Or.inl rfl) | exact Or.inr (Or.inr rfl)) (hd : (x == ("__debug__" : Str)) = false := by decide)
    (hcd : (x == ("__classdict__" : Str)) = false := by decide) {p : Pos} : PS X (.Return (some (.Name x p)) pos) (tS c (retV i)) := ps_imp (ps_ret (pe_var hN hv hd hcd)) fun N σ H ⟨r, e, y, n, hx, fin⟩ => by
  unfold retV at hx
  split at hx
  · rename_i d hd
    cases hx
    obtain ⟨v, hv⟩ := slot_has n.al.al hd
    have w0 : W c.G c.B H (e ++ envI σ r) := n.w
    exact ⟨v, hv, fin v σ H ⟨n.al.al.setR (y := none) (fun z => by simp at z), n.al.io⟩ (w0.take n.al.al hv hd)⟩
  · cases hx
theorem z_expr (h : PE X ex (tm c me)) (hs : swapsWith ex none pos.line X.env = pure false := by rfl) : PS X (.Expr ex pos) (tS c (exS me)) := ps_imp (ps_expr h hs) fun N σ H h => tm_mono (tS_bnd h) fun v H1 ⟨r, e, d, x, a, w, hx, fin⟩ => by
  cases hx
  exact fin σ H1 a w.drop
theorem z_if (ht : PT X t (tmB c mt)) (ha : PSs X sa (tS c ma)) (hb : PSs X sb (tS c mb)) : PS X (.If t sa sb pos) (tS c (ifS mt ma mb)) := ps_imp (ps_if ht ha hb) fun N σ H h => by
  obtain ⟨r, e, x, n, hx, fin⟩ := h
  rcases bndS_cases hx with ⟨d, r1, h1, h2⟩ | ⟨C, ns, ds, r1, h1, rfl⟩
  · refine ⟨r, e, _, n, h1, ?_⟩
    split at h2
    · exact fun H1 a w => iteT ⟨r1, e, x, ⟨a, Vok.nil, w⟩, h2, fin⟩
    · exact fun H1 a w => iteF ⟨r1, e, x, ⟨a, Vok.nil, w⟩, h2, fin⟩
    · cases h2
  · exact ⟨r, e, _, n, h1, fin σ⟩
theorem Alx.put {v : V} {d : D} (a : Alx c σ r) (hio : ∀ p ∈ c.ios, p.1 < nio) (hi : nio ≤ i) : Alx c (σ.set i (some v)) (r.set i (some d)) := ⟨a.al.set fun _ => rfl, fun p hp => by
  have := hio p hp
  rw [List.getElem?_set_ne (by omega)]
  exact a.io p hp⟩
theorem z_set (i : Nat) (hio : ∀ p ∈ c.ios, p.1 < nio) (h : PE X ex (tm c me)) (hN : X.N.Nodup) (hx : X.N[i]? = some x := by rfl) (hl : Loc X.env.scope x := by first | exact Or.inl rfl | exact Or.inr rfl) (hi : nio ≤ i := by decide) {pos' : Pos}
    (hs : swapsWith ex (some (.Name x pos')) pos.line X.env = pure false := by rfl) (hf : X.fn x = true ∨ X.env.scope.names.lookup x = some .local := by first | exact .inl rfl | exact .inr rfl | assumption) :
    PS X (.Assign [.Name x pos'] ex pos) (tS c (setS i me)) := ps_imp (ps_set hN hx hl h hs hf) fun N σ H h => tm_mono (tS_bnd h) fun v H1 ⟨r, e, d, y, a, w, hx, fin⟩ => by
  split at hx
  · rename_i il
    cases hx
    exact fin _ H1 (a.put hio hi) (w.put a.al il)
  · cases hx
theorem z_while (n : Nat) (hp : PassesOwn (model X.prog X.w) X.A X.env X.xe) (ht : PT X t (tmB c mt)) (hb : PSs X sb (tS c mb)) : PS X (.While t sb [] pos) (tS c (whileS mt mb n)) := ps_imp (ps_while hp ht hb) fun N σ H h => by
  obtain ⟨r, e, x, nw, hx, fin⟩ := h
  refine ⟨fun m σ H => ∃ r, Now c σ H [] r e ∧ whileS mt mb m r = some x, ⟨n, r, nw, hx⟩, ?_⟩
  rintro m σ H ⟨r, nw, hx⟩
  cases m with
  | zero => cases hx
  | succ m =>
    rcases bndS_cases hx with ⟨d, r1, h1, h2⟩ | ⟨C, ns, ds, r1, h1, rfl⟩
    · refine ⟨r, e, _, nw, h1, ?_⟩
      split at h2
      · refine fun H1 a w => iteT ⟨fun σ' H' => ∃ r', Now c σ' H' [] r' e ∧ whileS mt mb m r' = some x, fun σ' H' q => ⟨m, Nat.lt_succ_self _, q⟩, ?_⟩
        cases q : mb r1 with
        | none => rw [q] at h2; cases h2
        | some y =>
          rw [q] at h2
          refine ⟨r1, e, y, ⟨a, Vok.nil, w⟩, q, ?_⟩
          cases y with
          | nx r2 => exact fun σ' H' a w => ⟨r2, ⟨a, Vok.nil, w⟩, h2⟩
          | ct r2 => exact fun σ' H' a w => ⟨r2, ⟨a, Vok.nil, w⟩, h2⟩
          | bk r2 => cases h2; exact fin
          | rt d r2 => cases h2; exact fin
          | exc C ns ds r2 => cases h2; exact fin
      · cases h2
        exact fun H1 a w => iteF (fin σ H1 a w)
      · cases h2
    · exact ⟨r, e, _, nw, h1, fin σ⟩
end

/-! ### targets -/
abbrev MT := D → Rho → Option Rho
def tG (c : Ctx) (vs : List Nat) (g : MT) : TG := fun v σ H Q => ∃ r e d r1, Alx c σ r ∧ W c.G c.B H ((v, d) :: (e ++ envI σ r)) ∧ g d r = some r1 ∧ ∀ σ' H', wipe σ' vs = wipe σ vs → Alx c σ' r1 → W c.G c.B H' (e ++ envI σ' r1) → Q σ' H'
def tGs (c : Ctx) (vs : List Nat) (g : List D → Rho → Option Rho) : TGs := fun xs σ H Q => ∃ r e ds r1, Alx c σ r ∧ xs.length = ds.length ∧ W c.G c.B H (xs.zip ds ++ (e ++ envI σ r)) ∧ g ds r = some r1 ∧ ∀ σ' H', wipe σ' vs = wipe σ vs → Alx c σ' r1 → W c.G c.B H' (e ++ envI σ' r1) → Q σ' H'
theorem pg_imp {ex : Expr} {t t' : TG} (h : PG X ex t) (k : ∀ v σ H Q, t' v σ H Q → t v σ H Q) : PG X ex t' := ⟨fun pins s σ H v u Q I ru q => h.run pins s σ H v u Q I ru (k v σ H Q q)⟩
theorem pgs_imp {ex : List Expr} {t t' : TGs} (h : PGs X ex t) (k : ∀ v σ H Q, t' v σ H Q → t v σ H Q) : PGs X ex t' := ⟨fun pins s σ H v u Q I ru q => h.run pins s σ H v u Q I ru (k v σ H Q q)⟩
theorem pg_or {ex : Expr} {t t' : TG} (h : PG X ex t) (h' : PG X ex t') : PG X ex (fun v σ H Q => t v σ H Q ∨ t' v σ H Q) := ⟨fun pins s σ H v u Q I ru q => q.elim (h.run pins s σ H v u Q I ru) (h'.run pins s σ H v u Q I ru)⟩
theorem wipe_set {i : Nat} {x : Option V} : ∀ {vs : List Nat} {σ : L2.St}, i ∈ vs → wipe (σ.set i x) vs = wipe σ vs
  | [], _, h => nomatch h
  | v :: vs, σ, h => by
    unfold wipe
    by_cases e : i ∈ vs
    · rw [wipe_set e]
    · have hv : v = i := by
        rcases List.mem_cons.mp h with z | z
        · exact z.symm
        · exact absurd z e
      subst hv
      have key : ∀ {vs : List Nat} {σ : L2.St}, v ∉ vs → wipe (σ.set v x) vs = (wipe σ vs).set v x := by
        intro vs
        induction vs with
        | nil => intro σ _; rfl
        | cons w ws ih =>
          intro σ hn
          simp only [List.mem_cons, not_or] at hn
          unfold wipe
          rw [ih hn.2, List.set_comm _ _ hn.1]
      rw [key e, List.set_set]
def nameT (i : Nat) : MT := fun d r => if i < r.length then some (r.set i (some d)) else none
def nilT : List D → Rho → Option Rho
  | [], r => some r
  | _, _ => none
def consT (g : MT) (gs : List D → Rho → Option Rho) : List D → Rho → Option Rho
  | d :: ds, r => (g d r).bind (gs ds)
  | _, _ => none
def tupT (gs : List D → Rho → Option Rho) : MT := fun d r => match d with
  | .tup l => gs l r
  | .lst _ l => if noOwns l = true then gs l r else none
  | _ => none
section
variable {x : Str} {pos : Pos} {i : Nat} {vs : List Nat} {g : MT} {gs : List D → Rho → Option Rho} {ex : Expr} {es : List Expr}
theorem z_gn (i : Nat) (hio : ∀ p ∈ c.ios, p.1 < nio) (hN : X.N.Nodup) (hv : i ∈ vs := by decide) (hx : X.N[i]? = some x := by rfl) (hl : Loc X.env.scope x := by first | exact Or.inl rfl | exact Or.inr rfl) (hi : nio ≤ i := by decide)
    (hf : X.fn x = true ∨ X.env.scope.names.lookup x = some .local := by first | exact .inl rfl | exact .inr rfl | assumption) : PG X (.Name x pos) (tG c vs (nameT i)) := pg_imp (pg_name hN hx hl hf) fun v σ H Q ⟨r, e, d, r1, a, w, h, k⟩ => by
  unfold nameT at h
  split at h
  · rename_i il
    cases h
    exact k _ H (wipe_set hv) (a.put hio hi) (w.put a.al il)
  · cases h
theorem z_gnil : PGs X [] (tGs c vs nilT) := pgs_imp pgs_nil fun xs σ H Q ⟨r, e, ds, r1, a, hl, w, h, k⟩ => by
  match ds, h with
  | [], h =>
    cases h
    match xs, hl with
    | [], _ => exact ⟨rfl, k σ H rfl a w⟩
theorem z_gcons (h1 : PG X ex (tG c vs g)) (h2 : PGs X es (tGs c vs gs)) (hs : (assignEach (ex :: es) X.env).map (·.2) = assign ex X.env :: (assignEach es X.env).map (·.2) := by rfl) : PGs X (ex :: es) (tGs c vs (consT g gs)) := pgs_imp (pgs_cons h1 h2 hs) fun xs σ H Q ⟨r, e, ds, r1, a, hl, w, h, k⟩ => by
  match ds, h with
  | d :: ds, h =>
    match xs, hl with
    | v :: xs, hl =>
      obtain ⟨r2, h3, h4⟩ := Option.bind_eq_some_iff.mp (show (g d r).bind (gs ds) = some r1 from h)
      refine ⟨v, xs, rfl, r, xs.zip ds ++ e, d, r2, a, ?_, h3, fun σ' H' wp a' w' => ⟨r2, e, ds, r1, a', by simpa using hl, by simpa [List.append_assoc] using w', h4, fun σ2 H2 wp2 => k σ2 H2 (wp2.trans wp)⟩⟩
      simpa [List.append_assoc] using w
theorem W.untup {G : Cfg} {B : Bs} {v : V} {l : List D} {g : List It} (w : W G B H ((v, .tup l) :: g)) : ∃ a xs, v = .ref a ∧ H a = some (.tup xs) ∧ xs.length = l.length ∧ W G B H (xs.zip l ++ g) := by
  obtain ⟨a, xs, e, e1, k⟩ := w.tup List.mem_cons_self
  refine ⟨a, xs, e, e1, k.len, ?_⟩
  obtain ⟨F, O, w, O1, O2, t, h2, e2⟩ := w
  simp only [Tr] at t
  obtain ⟨b, ys, e3, e4, h⟩ := t
  rw [e] at e3; cases e3
  rw [e1] at e4; cases e4
  exact ⟨F, O, w, Own.app.mpr ⟨O1, O2, (Own.kids k.len).mpr h, h2, e2⟩⟩
theorem z_gt {k : Nat} {n : Nat} (hc : X.calm = true) (h : PGs X es (tGs c vs gs)) (hn : (assignEach es X.env).length = n := by rfl) (hst : (assignEach es X.env).findIdx? (·.1) = none := by rfl) (hlen : ∀ (ds : List D) r r1, gs ds r = some r1 → ds.length = n) :
    PG X (.Tuple es k pos) (tG c vs (tupT gs)) := pg_imp (pg_or (pg_tup hc h hn hst) (pg_unl hc h hn hst)) fun v σ H Q ⟨r, e, d, r1, a, w, hg, kk⟩ => by
  unfold tupT at hg
  split at hg
  · rename_i l
    obtain ⟨b, xs, e1, e2, hl, w2⟩ := w.untup
    exact .inl ⟨b, xs, e1, SqT.of e2, by rw [hl, hlen _ _ _ hg], r, e, l, r1, a, hl, w2, hg, kk⟩
  · rename_i o l
    split at hg
    · rename_i hno
      obtain ⟨b, xs, e1, e2, kd⟩ := w.lst List.mem_cons_self
      have kc := kd.kc hno
      exact .inr ⟨b, xs, e1, SqL.of e2, by rw [kd.len, hlen _ _ _ hg], r, (v, .lst o l) :: e, l, r1, a, kd.len, W.adds kd.len kc.cp w, hg, fun σ' H' wp a' w' => kk σ' H' wp a' (W.drop w')⟩
    · cases hg
  · cases hg
theorem len_nilT : ∀ (ds : List D) (r r1 : Rho), nilT ds r = some r1 → ds.length = 0
  | [], _, _, _ => rfl
  | _ :: _, _, _, h => by cases h
theorem len_consT {n : Nat} (h : ∀ (ds : List D) (r r1 : Rho), gs ds r = some r1 → ds.length = n) : ∀ (ds : List D) (r r1 : Rho), consT g gs ds r = some r1 → ds.length = n + 1
  | d :: ds, r, r1, q => by
    obtain ⟨r2, h3, h4⟩ := Option.bind_eq_some_iff.mp (show (g d r).bind (gs ds) = some r1 from q)
    rw [List.length_cons, h ds r2 r1 h4]
  | [], _, _, q => by cases q
end
/-- target = value -/
def asgS (m : M D) (g : MT) : MS := bndS m fun d r => (g d r).map Out.nx
theorem z_asg {tg ex : Expr} {me : M D} {g : MT} {vs : List Nat} {pos : Pos} (he : PE X ex (tm c me)) (hg : PG X tg (tG c vs g)) (hs : swapsWithSole [tg] ex pos.line X.env = pure false := by rfl) (hw : swappedStores [tg] ex X.env = pure none := by rfl)
    (h1 : (assignEach [tg] X.env).map (·.2) = [assign tg X.env] := by rfl) : PS X (.Assign [tg] ex pos) (tS c (asgS me g)) := ps_imp (ps_asg he hg hs hw h1) fun N σ H h => tm_mono (tS_bnd h) fun v H1 ⟨r, e, d, y, a, w, hx, fin⟩ => by
  obtain ⟨r1, h1, rfl⟩ := Option.map_eq_some_iff.mp hx
  exact ⟨r, e, d, r1, a, w, h1, fun σ' H' _ => fin σ' H'⟩
/-- names in a row = values in a row -/
def par2 (i j : Nat) (ms : M (List Opd)) : MS := bndS ms fun os r => match tds os with
  | some [d1, d2] => if i < r.length ∧ j < r.length then some (.nx ((r.set i (some d1)).set j (some d2))) else none
  | _ => none
def par3 (i j k : Nat) (ms : M (List Opd)) : MS := bndS ms fun os r => match tds os with
  | some [d1, d2, d3] => if i < r.length ∧ j < r.length ∧ k < r.length then some (.nx (((r.set i (some d1)).set j (some d2)).set k (some d3))) else none
  | _ => none
section
variable {x y z : Str} {a b d : Expr} {px py pz pt pt2 pos : Pos} {kt k2 : Nat} {ms : M (List Opd)}
theorem z_par (i j : Nat) (hio : ∀ p ∈ c.ios, p.1 < nio) (hc : X.calm = true) (hN : X.N.Nodup) (ha : PA X [a, b] (tma c ms)) (hi : X.N[i]? = some x := by rfl) (hj : X.N[j]? = some y := by rfl) (hij : i ≠ j := by decide)
    (hx : X.env.scope.names.lookup x = some .local := by rfl) (hy : X.env.scope.names.lookup y = some .local := by rfl) (h1 : nio ≤ i := by decide) (h2 : nio ≤ j := by decide)
    (hw : swappedStores [.Tuple [.Name x px, .Name y py] kt pt] (.Tuple [a, b] k2 pt2) X.env = pure (some [x, y]) := by rfl)
    (hs : swapsWithSole [.Tuple [.Name x px, .Name y py] kt pt] (.Tuple [a, b] k2 pt2) pos.line X.env = pure false := by rfl) :
    PS X (.Assign [.Tuple [.Name x px, .Name y py] kt pt] (.Tuple [a, b] k2 pt2) pos) (tS c (par2 i j ms)) := ps_imp (ps_par hc hN hi hj hij hx hy ha hw hs) fun N σ H h => tma_mono (tS_bndA h) fun vs H1 ⟨r, e, os, q, hl, n, hx, fin⟩ => by
  split at hx
  · rename_i d1 d2 hd
    split at hx
    · rename_i hlt
      cases hx
      obtain ⟨e1, e2⟩ := tds_tmps hl hd
      have w := n.w
      rw [e1] at w
      match vs, (show vs.length = 2 by rw [hl, ← e2]; rfl) with
      | [v1, v2], _ =>
        refine ⟨v1, v2, rfl, fin _ H1 ((n.al.put hio h1).put hio h2) ?_⟩
        have w1 : W c.G c.B H1 ((v1, d1) :: (((v2, d2) :: e) ++ envI σ r)) := w
        have w2 := w1.put n.al.al hlt.1
        exact W.put w2 (n.al.al.set fun _ => rfl) (by rw [List.length_set]; exact hlt.2)
    · cases hx
  · cases hx
theorem z_par3 (i j k : Nat) (hio : ∀ p ∈ c.ios, p.1 < nio) (hc : X.calm = true) (hN : X.N.Nodup) (ha : PA X [a, b, d] (tma c ms)) (hi : X.N[i]? = some x := by rfl) (hj : X.N[j]? = some y := by rfl) (hk : X.N[k]? = some z := by rfl) (hij : i ≠ j := by decide) (hik : i ≠ k := by decide) (hjk : j ≠ k := by decide)
    (hx : X.env.scope.names.lookup x = some .local := by rfl) (hy : X.env.scope.names.lookup y = some .local := by rfl) (hz : X.env.scope.names.lookup z = some .local := by rfl) (h1 : nio ≤ i := by decide) (h2 : nio ≤ j := by decide) (h3 : nio ≤ k := by decide)
    (hw : swappedStores [.Tuple [.Name x px, .Name y py, .Name z pz] kt pt] (.Tuple [a, b, d] k2 pt2) X.env = pure (some [x, y, z]) := by rfl)
    (hs : swapsWithSole [.Tuple [.Name x px, .Name y py, .Name z pz] kt pt] (.Tuple [a, b, d] k2 pt2) pos.line X.env = pure false := by rfl) :
    PS X (.Assign [.Tuple [.Name x px, .Name y py, .Name z pz] kt pt] (.Tuple [a, b, d] k2 pt2) pos) (tS c (par3 i j k ms)) := ps_imp (ps_par3 hc hN hi hj hk hij hik hjk hx hy hz ha hw hs) fun N σ H h => tma_mono (tS_bndA h) fun vs H1 ⟨r, e, os, q, hl, n, hx, fin⟩ => by
  split at hx
  · rename_i d1 d2 d3 hd
    split at hx
    · rename_i hlt
      cases hx
      obtain ⟨e1, e2⟩ := tds_tmps hl hd
      have w := n.w
      rw [e1] at w
      match vs, (show vs.length = 3 by rw [hl, ← e2]; rfl) with
      | [v1, v2, v3], _ =>
        refine ⟨v1, v2, v3, rfl, fin _ H1 (((n.al.put hio h1).put hio h2).put hio h3) ?_⟩
        have w1 : W c.G c.B H1 ((v1, d1) :: (((v2, d2) :: (v3, d3) :: e) ++ envI σ r)) := w
        have w2 := w1.put n.al.al hlt.1
        have w3 : W c.G c.B H1 ((v2, d2) :: (((v3, d3) :: e) ++ envI (σ.set i (some v1)) (r.set i (some d1)))) := w2
        have w4 := W.put w3 (n.al.al.set fun _ => rfl) (by rw [List.length_set]; exact hlt.2.1)
        exact W.put w4 ((n.al.al.set fun _ => rfl).set fun _ => rfl) (by rw [List.length_set, List.length_set]; exact hlt.2.2)
    · cases hx
  · cases hx
end
end Z

set_option Elab.async false
set_option linter.all false
set_option maxRecDepth 100000
set_option maxHeartbeats 4000000
/-! Z9: what is changed in place; what is walked; loops; list comprehensions; defs. -/
namespace Z
open PySem PySem.Spec PyProof.Rows L2
variable {c : Ctx} {σ : L2.St} {H : Hp} {l : Pend} {r : Rho} {e : List It} {X : Cx} {Q : VK} {N : Ends} {nio : Nat}

/-! ### name[index] = .. -/
theorem zip_set : ∀ {xs : List V} {l : List D} {j : Nat} {v : V} {d : D}, (xs.set j v).zip (l.set j d) = (xs.zip l).set j (v, d)
  | [], _, _, _, _ => by simp
  | _ :: _, [], _, _, _ => by simp
  | x :: xs, y :: l, 0, v, d => by simp
  | x :: xs, y :: l, j + 1, v, d => by simp [zip_set]
theorem W.setL {G : Cfg} {B : Bs} {xs : List V} {l : List D} {a : Addr} {v : V} {d : D} {j : Nat} {g : List It} (w : Wo G B H a (xs.zip l ++ ((v, d) :: g))) (ln : xs.length = l.length) (hj : j < l.length) :
    W G B (upd H a (.lst (xs.set j v))) ((.ref a, .lst true (l.set j d)) :: g) := by
  refine Wo.closeL ?_ (by simp [ln])
  rw [zip_set]
  have jl : j < (xs.zip l).length := by rw [List.length_zip, ln, Nat.min_self]; exact hj
  have p1 : (xs.zip l ++ ((v, d) :: g)).Perm ((xs.zip l)[j] :: ((v, d) :: ((xs.zip l).eraseIdx j ++ g))) := by
    refine ((perm_erase (List.getElem?_eq_getElem jl)).append_right _).trans ?_
    exact List.Perm.cons _ List.perm_middle
  have w1 := (w.perm p1).drop
  refine w1.perm ?_
  exact ((perm_set jl).symm.append_right g)
def subT (i : Nat) (mi : M Opd) : MT := fun d r => match r[i]? with
  | some (some _) => (match mi r with
    | some (.ok o r1) => (match r1[i]?, opdD r1 o with
      | some (some (.lst true l)), some (.int k) => (match ixN l.length k with
        | some j => if j < l.length then some (r1.set i (some (.lst true (l.set j d)))) else none
        | none => none)
      | _, _ => none)
    | _ => none)
  | _ => none
theorem z_gs (i : Nat) {x : Str} {ix : Expr} {px pos : Pos} {vs : List Nat} {mi : M Opd} (h : PE X ix (tmo c mi)) (hN : X.N[i]? = some x := by rfl) (hv : Vis X.env.scope x := by first | exact Or.inl rfl | exact Or.inr (Or.inl rfl) | exact Or.inr (Or.inr rfl)) (hd : (x == ("__debug__" : Str)) = false := by decide)
    (hcd : (x == ("__classdict__" : Str)) = false := by decide)
    (ha : ∀ v, assign (.Subscript (.Name x px) ix pos) X.env v = (do
      let ov ← holding [v] (eval (.Name x px) X.env)
      let iv ← holding [v, ov] (eval ix X.env)
      standAt pos
      holding [v, ov, iv] (setItem ov iv v)
      release [v, ov, iv] []) := by intro _; rfl) : PG X (.Subscript (.Name x px) ix pos) (tG c vs (subT i mi)) := pg_imp (pg_sub (pe_var hN hv hd hcd) h set_list ha) fun v σ H Q ⟨r, e, d, r1, a, w, hg, kk⟩ => by
  unfold subT at hg
  split at hg
  · rename_i d0 hi0
    split at hg
    · rename_i o r2 hm
      split at hg
      · rename_i l k hi ho
        split at hg
        · rename_i j hj
          split at hg
          · rename_i jl
            cases hg
            obtain ⟨ov, hov⟩ := slot_has a.al hi0
            refine ⟨ov, hov, r, (v, d) :: e, _, ⟨a, Vok.nil, w⟩, hm, fun iv H2 a2 vk w2 => ?_⟩
            have n2 : Now c σ H2 [(iv, o)] r2 ((v, d) :: e) := ⟨a2, vk, w2⟩
            have miv := opd_mem n2 List.mem_cons_self ho
            have eiv := W.int w2 miv
            have w3 : W c.G c.B H2 (((v, d) :: e) ++ envI σ r2) := W.drops (l := tmps [(iv, o)]) w2
            have w4 := w3.take a2.al hov hi
            obtain ⟨b, xs, e1, e2, ln, wo⟩ := w4.openL
            refine ⟨b, xs, k, j, e1, eiv, e2, by rw [ln]; exact hj, ?_⟩
            have w5 : W c.G c.B (upd H2 b (.lst (xs.set j v))) ((.ref b, .lst true (l.set j d)) :: (e ++ envI σ (r2.set i none))) := W.setL wo ln jl
            rw [← e1] at w5
            have il : i < (r2.set i none).length := by rw [List.length_set]; exact (List.getElem?_eq_some_iff.mp hi).1
            have w6 := w5.put (a2.al.setR (y := none) fun z => by simp at z) il
            rw [set_self_of hov, List.set_set] at w6
            exact kk σ _ rfl (a2.setR hov) w6
          · cases hg
        · cases hg
      · cases hg
    · cases hg
  · cases hg

/-! ### name.append(..), name.pop(), name.pop(..) -/
/-- the list in a slot gets another content -/
theorem W.slotL {G : Cfg} {B : Bs} {i : Nat} {l l' : List D} {res e : List It} {v0 : V} (w : W G B H (res ++ (e ++ envI σ r))) (a : Al σ r) (h1 : σ[i]? = some (some v0)) (h2 : r[i]? = some (some (.lst true l))) :
    ∃ b xs, v0 = .ref b ∧ H b = some (.lst xs) ∧ xs.length = l.length ∧ ∀ (xs' : List V) (res' : List It), xs'.length = l'.length → (xs'.zip l' ++ res').Perm (xs.zip l ++ res) → W G B (upd H b (.lst xs')) (res' ++ (e ++ envI σ (r.set i (some (.lst true l'))))) := by
  have w1 : W G B H ((res ++ e) ++ envI σ r) := by rw [List.append_assoc]; exact w
  have w2 := w1.take a h1 h2
  obtain ⟨b, xs, e1, e2, ln, wo⟩ := w2.openL
  refine ⟨b, xs, e1, e2, ln, fun xs' res' hl hp => ?_⟩
  have w3 : Wo G B H b (xs'.zip l' ++ (res' ++ (e ++ envI σ (r.set i none)))) := wo.perm (by
    have := (hp.append_right (e ++ envI σ (r.set i none))).symm
    simpa [List.append_assoc] using this)
  have w4 := w3.closeL hl
  rw [← e1] at w4
  have il : i < (r.set i none).length := by rw [List.length_set]; exact (List.getElem?_eq_some_iff.mp h2).1
  have w5 : W G B (upd H b (.lst xs')) ((v0, .lst true l') :: ((res' ++ e) ++ envI σ (r.set i none))) := by rw [List.append_assoc]; exact w4
  have w6 := w5.put (a.setR (y := none) fun z => by simp at z) il
  rw [set_self_of h1, List.set_set, List.append_assoc] at w6
  exact w6
def isLst : D → Bool
  | .lst _ _ => true
  | _ => false
def appM (i : Nat) (ms : M (List Opd)) : M D := fun r => match r[i]? with
  | some (some d0) => if isLst d0 = true then bnd ms (fun os r => match tds os, r[i]? with
    | some [d], some (some (.lst true l)) => if l.length < 10000000 then some (.ok .non (r.set i (some (.lst true (l ++ [d]))))) else none
    | _, _ => none) r else none
  | _ => none
def popM (i : Nat) : M D := fun r => match r[i]? with
  | some (some (.lst true l)) => (match l[l.length - 1]? with
    | some d => some (.ok d (r.set i (some (.lst true l.dropLast))))
    | none => none)
  | _ => none
def popAtM (i : Nat) (ms : M (List Opd)) : M D := fun r => match r[i]? with
  | some (some d0) => if isLst d0 = true then bnd ms (fun os r => match tds os, r[i]? with
    | some [.int k], some (some (.lst true l)) => if -(2 ^ 63) ≤ k ∧ k < 2 ^ 63 then (match seqIndex? k l.length with
      | some j => (match l[j]? with
        | some d => some (.ok d (r.set i (some (.lst true (l.eraseIdx j)))))
        | none => none)
      | none => none) else none
    | _, _ => none) r else none
  | _ => none
theorem zip_erase : ∀ {xs : List V} {l : List D} {j : Nat}, xs.length = l.length → (xs.eraseIdx j).zip (l.eraseIdx j) = (xs.zip l).eraseIdx j
  | [], [], _, _ => by simp
  | [], _ :: _, _, h => by simp at h
  | _ :: _, [], _, h => by simp at h
  | x :: xs, y :: l, 0, _ => by simp
  | x :: xs, y :: l, j + 1, h => by simp [zip_erase (xs := xs) (l := l) (by simpa using h)]
theorem zip_app1 {xs : List V} {l : List D} {v : V} {d : D} (h : xs.length = l.length) : (xs ++ [v]).zip (l ++ [d]) = xs.zip l ++ [(v, d)] := by
  rw [List.zip_append h]; rfl
theorem dropLast_erase {α : Type} : ∀ (l : List α), l.dropLast = l.eraseIdx (l.length - 1)
  | [] => rfl
  | [x] => rfl
  | x :: y :: l => by
    have := dropLast_erase (y :: l)
    simp only [List.dropLast_cons₂, List.length_cons, Nat.add_sub_cancel] at this ⊢
    rw [this]
    rfl
section
variable {x : Str} {px apos cpos : Pos} {ex : Expr} {es : List Expr} {ms : M (List Opd)}
theorem slot_tyV {i : Nat} (hG : c.G.K = X.K) {v0 : V} {d0 : D} {e : List It} (w : W c.G c.B H (e ++ envI σ r)) (h1 : σ[i]? = some (some v0)) (h2 : r[i]? = some (some d0)) (hd : isLst d0 = true) : tyV X.K "list" v0 H := by
  cases d0 with
  | lst o l => exact tyOk_V hG w (List.mem_append_right _ (List.mem_of_getElem? (envI_get h1 h2))) rfl
  | _ => cases hd
theorem z_append (i : Nat) (hG : c.G.K = X.K) (ha : PA X (ex :: es) (tma c ms)) (hN : X.N[i]? = some x := by rfl) (hv : Vis X.env.scope x := by first | exact Or.inl rfl | exact Or.inr (Or.inl rfl) | exact Or.inr (Or.inr rfl)) (hd : (x == ("__debug__" : Str)) = false := by decide)
    (hcd : (x == ("__classdict__" : Str)) = false := by decide)
    (hbase : attributeBase (.Name x px) "append" X.env (eval (.Name x px) X.env) = eval (.Name x px) X.env := by rfl)
    (hfew : ((backTo cpos (starEach (ex :: es) X.env)).all (fun x => !x.1) && (backToKw cpos (keywordEach [] X.env)).all (fun x => x.1.isSome)
      && decide ((ex :: es).length + ([] : List Keyword).length + (if ([] : List Keyword).isEmpty then 0 else 1) < 30)) = true := by rfl)
    (hline : (apos.endLine == cpos.line) = true := by rfl) (hs : starEach (ex :: es) X.env = (false, eval ex X.env) :: starEach es X.env := by rfl) (hplain : (backTo cpos (starEach es X.env)).any (·.1) = false := by rfl) :
    PE X (.Call (.Attribute (.Name x px) "append" apos) (ex :: es) [] cpos) (tm c (appM i ms)) :=
  pe_imp (pe_bm F.plainAttrs_list F.slot_list_append F.type_list_append mt_append (pe_var hN hv hd hcd) ha hbase hfew hline hs hplain) fun σ H Q ⟨r, e, y, n, hx, fin⟩ => by
    unfold appM at hx
    split at hx
    · rename_i d0 hi0
      split at hx
      · rename_i hd0
        obtain ⟨v0, hv0⟩ := slot_has n.al.al hi0
        have w0 : W c.G c.B H (e ++ envI σ r) := n.w
        refine ⟨v0, hv0, slot_tyV hG w0 hv0 hi0 hd0, tma_mono (tk_bndA ⟨r, e, y, n, hx, fin⟩) fun vs H1 ⟨os, hl, r1, e1, y1, n1, hx1, fin1⟩ => ?_⟩
        dsimp only at hx1
        split at hx1
        · rename_i d l hd hi
          split at hx1
          · rename_i hz
            cases hx1
            obtain ⟨q1, q2⟩ := tds_tmps hl hd
            match vs, (show vs.length = 1 by rw [hl, ← q2]; rfl) with
            | [v1], _ =>
            have w1 : W c.G c.B H1 ([(v1, d)] ++ (e1 ++ envI σ r1)) := by
              have := n1.w
              rw [List.append_nil, q1] at this
              exact this
            obtain ⟨b, xs, e2, e3, ln, k⟩ := w1.slotL (l' := l ++ [d]) n1.al.al hv0 hi
            refine ⟨b, xs, v1, e2, rfl, e3, by rw [ln]; exact Nat.lt_of_lt_of_le hz (lim_ok (Nat.le_refl _)), fin1 .non _ (n1.al.setR hv0) (W.add (k (xs ++ [v1]) [] (by simp [ln]) ?_) (Cp.triv fun F => by simp [Tr]))⟩
            rw [zip_app1 ln, List.append_nil]
          · cases hx1
        · cases hx1
      · cases hx
    · cases hx
theorem z_pop (i : Nat) (hG : c.G.K = X.K) (hN : X.N[i]? = some x := by rfl) (hv : Vis X.env.scope x := by first | exact Or.inl rfl | exact Or.inr (Or.inl rfl) | exact Or.inr (Or.inr rfl)) (hd : (x == ("__debug__" : Str)) = false := by decide)
    (hcd : (x == ("__classdict__" : Str)) = false := by decide)
    (hbase : attributeBase (.Name x px) "pop" X.env (eval (.Name x px) X.env) = eval (.Name x px) X.env := by rfl) (hline : (apos.endLine == cpos.line) = true := by rfl) :
    PE X (.Call (.Attribute (.Name x px) "pop" apos) [] [] cpos) (tm c (popM i)) :=
  pe_imp (pe_bm0 F.plainAttrs_list F.slot_list_pop F.type_list_pop mt_pop (pe_var hN hv hd hcd) hbase hline) fun σ H Q ⟨r, e, y, n, hx, fin⟩ => by
    unfold popM at hx
    split at hx
    · rename_i l hi
      split at hx
      · rename_i d hd
        cases hx
        obtain ⟨v0, hv0⟩ := slot_has n.al.al hi
        have w0 : W c.G c.B H ([] ++ (e ++ envI σ r)) := n.w
        obtain ⟨b, xs, e2, e3, ln, k⟩ := w0.slotL (l' := l.dropLast) n.al.al hv0 hi
        have hlt : l.length - 1 < xs.length := by rw [ln]; exact (List.getElem?_eq_some_iff.mp hd).1
        refine ⟨v0, hv0, slot_tyV hG n.w hv0 hi rfl, b, xs, xs[l.length - 1], e2, rfl, e3, by rw [ln]; exact List.getElem?_eq_getElem hlt, fin _ _ (n.al.setR hv0) (k xs.dropLast [(xs[l.length - 1], d)] (by simp [ln]) ?_)⟩
        rw [dropLast_erase, dropLast_erase, ln, zip_erase ln, List.append_nil]
        refine List.perm_append_comm.trans (perm_erase ?_).symm
        rw [List.getElem?_zip_eq_some]
        exact ⟨List.getElem?_eq_getElem hlt, hd⟩
      · cases hx
    · cases hx
theorem z_popAt (i : Nat) (hG : c.G.K = X.K) (ha : PA X (ex :: es) (tma c ms)) (hN : X.N[i]? = some x := by rfl) (hv : Vis X.env.scope x := by first | exact Or.inl rfl | exact Or.inr (Or.inl rfl) | exact Or.inr (Or.inr rfl)) (hd : (x == ("__debug__" : Str)) = false := by decide)
    (hcd : (x == ("__classdict__" : Str)) = false := by decide)
    (hbase : attributeBase (.Name x px) "pop" X.env (eval (.Name x px) X.env) = eval (.Name x px) X.env := by rfl)
    (hfew : ((backTo cpos (starEach (ex :: es) X.env)).all (fun x => !x.1) && (backToKw cpos (keywordEach [] X.env)).all (fun x => x.1.isSome)
      && decide ((ex :: es).length + ([] : List Keyword).length + (if ([] : List Keyword).isEmpty then 0 else 1) < 30)) = true := by rfl)
    (hline : (apos.endLine == cpos.line) = true := by rfl) (hs : starEach (ex :: es) X.env = (false, eval ex X.env) :: starEach es X.env := by rfl) (hplain : (backTo cpos (starEach es X.env)).any (·.1) = false := by rfl) :
    PE X (.Call (.Attribute (.Name x px) "pop" apos) (ex :: es) [] cpos) (tm c (popAtM i ms)) :=
  pe_imp (pe_bm F.plainAttrs_list F.slot_list_pop F.type_list_pop mt_popAt (pe_var hN hv hd hcd) ha hbase hfew hline hs hplain) fun σ H Q ⟨r, e, y, n, hx, fin⟩ => by
    unfold popAtM at hx
    split at hx
    · rename_i d0 hi0
      split at hx
      · rename_i hd0
        obtain ⟨v0, hv0⟩ := slot_has n.al.al hi0
        have w0 : W c.G c.B H (e ++ envI σ r) := n.w
        refine ⟨v0, hv0, slot_tyV hG w0 hv0 hi0 hd0, tma_mono (tk_bndA ⟨r, e, y, n, hx, fin⟩) fun vs H1 ⟨os, hl, r1, e1, y1, n1, hx1, fin1⟩ => ?_⟩
        dsimp only at hx1
        split at hx1
        · rename_i kx l hd hi
          split at hx1
          · rename_i hk
            split at hx1
            · rename_i j hj
              split at hx1
              · rename_i d hd2
                cases hx1
                obtain ⟨q1, q2⟩ := tds_tmps hl hd
                match vs, (show vs.length = 1 by rw [hl, ← q2]; rfl) with
                | [v1], _ =>
                have w1 : W c.G c.B H1 ((v1, .int kx) :: (e1 ++ envI σ r1)) := by
                  have := n1.w
                  rw [List.append_nil, q1] at this
                  exact this
                have ev := w1.int List.mem_cons_self
                obtain ⟨b, xs, e2, e3, ln, k⟩ := W.slotL (res := []) (l' := l.eraseIdx j) w1.drop n1.al.al hv0 hi
                have hlt : j < xs.length := by rw [ln]; exact (List.getElem?_eq_some_iff.mp hd2).1
                refine ⟨b, xs, kx, j, xs[j], e2, by rw [ev], e3, hk.1, hk.2, by rw [ln]; exact hj, List.getElem?_eq_getElem hlt, fin1 _ _ (n1.al.setR hv0) (k (xs.eraseIdx j) [(xs[j], d)] (by rw [List.length_eraseIdx, List.length_eraseIdx, ln]) ?_)⟩
                rw [zip_erase ln, List.append_nil]
                refine List.perm_append_comm.trans (perm_erase ?_).symm
                rw [List.getElem?_zip_eq_some]
                exact ⟨List.getElem?_eq_getElem hlt, hd2⟩
              · cases hx1
            · cases hx1
          · cases hx1
        · cases hx1
      · cases hx
    · cases hx
end
end Z

set_option Elab.async false
set_option linter.all false
set_option maxRecDepth 100000
/-! ZE: enumerate of a tuple. -/
namespace ZE
open PySem PySem.Spec PyProof.Rows L2
open Sem (wp)
set_option maxHeartbeats 1000000 in
theorem new_enumB {v : Value} {o : Obj} {H : Heap → Prop} (B : Begins v o H) :
    Meets (Builtin.«enumerate.__new__» ⟨[.type "enumerate", v], []⟩) (fun _ R s => H s.heap ∧ R (.ok (.ret (.ref (s.heap.push o).objs.size))) { s with heap := (s.heap.push o).push { cls := .type "enumerate", data := .fields #[.none, .bool false, .ref s.heap.objs.size, rawInt 0, .none, .none] } }) :=
  .of_wp fun prog w A R s hh => by
    obtain ⟨hp, g, d, tk, os⟩ := s
    obtain ⟨h1, h⟩ := hh
    have hsub := sub_enumerate
    have q1 : ∀ {A' : Around} {E : Value → Shared → Prop} {Q : Value → Shared → Prop}, Q (.ref hp.objs.size) ⟨hp.push o, g, d, tk, os⟩ → wpAny (model prog w) A' (pyIter v) Q E ⟨hp, g, d, tk, os⟩ := fun q => B.iter prog w _ _ ⟨hp, g, d, tk, os⟩ _ h1 q
    wp_walk using q1
    refine wpAny_stack_any fun st => wpAny_pure ?_
    split
    · rename_i c _ _ _ _ _
      cases (c == Value.type "enumerate") <;> (wp_walk using q1; exact ⟨_, rfl, h⟩)
    · wp_walk using q1; exact ⟨_, rfl, h⟩
section
variable {prog : Program} {w : World} {A : Around} {E : Value → Shared → Prop} {s : Shared}
theorem call_enumB {v : Value} {o : Obj} {H : Heap → Prop} {Q : Value → Shared → Prop} (B : Begins v o H) (h1 : H s.heap)
    (h : ∀ h', IsEnum h' (s.heap.objs.size + 1) s.heap.objs.size 0 .none → h'.get? s.heap.objs.size = some o → (∀ b o, s.heap.get? b = some o → h'.get? b = some o) → Q (.ref (s.heap.objs.size + 1)) { s with heap := h' }) :
    wpAny (model prog w) A (call (.type "enumerate") [v]) Q E s := by
  refine callType_new F.called_enumerate (by decide) (F.typeCall_enumerate_1 _) (F.newCall_enumerate_1 _) (fun obj => F.args_object_init_2 obj _) F.entry_enumerate_new (new_enumB B) ⟨h1, ?_⟩
  have hz : (s.heap.push o).objs.size = s.heap.objs.size + 1 := Heap.size_push ..
  show _ ∧ _
  rw [hz]
  have he := Heap.get?_push_size (s.heap.push o) (o := { cls := .type "enumerate", data := .fields #[.none, .bool false, .ref s.heap.objs.size, rawInt 0, .none, .none] }) rfl
  rw [hz] at he
  exact ⟨⟨_, he, rfl⟩, h _ he (Heap.get?_push_of_some _ (Heap.get?_push_size _ B.free)) fun b o x => Heap.get?_push_of_some _ (Heap.get?_push_of_some _ x)⟩
end
theorem enum_endT {prog : Program} {w : World} {A : Around} {E : Value → Shared → Prop} {s : Shared} {e it l : Addr} {i : Nat} {items : Array Value} {old : Value} {Q : Option Value → Shared → Prop} (hh : A.in1.handled = none)
    (he : IsEnum s.heap e it i old) (ht : s.heap.IsTupleIter it l i) (hl : s.heap.IsTuple l items) (hx : items[i]? = none)
    (hQ : ∀ h', Heap.ExtBut it s.heap h' → Q none { s with heap := h' }) : wpAny (model prog w) A (pyNext (.ref e)) Q E s := by
  have hT : s.TypeIs (.ref e) "enumerate" := ⟨_, he, rfl⟩
  unfold pyNext
  refine wpAny_bind (wpAny_attempt (wpAny_callSpecial?_slot (name := Str.ofString "__next__") hT F.slot_enumerate_next (wpAny_call_entry F.slot_enumerate_next hT F.entry_enumerate_next ?_ (F.args_enumerate_next_1 _))))
  show wpAny _ _ (field (.ref e) 2 >>= _) _ _ _
  refine wpAny_bind (wpAny_field he rfl (x := .ref it) rfl (wpAny_bind (wpAny_nextOf_tuple_end hh ht hl hx fun h' x k1 k2 => ?_)))
  obtain ⟨o, ho, hc⟩ := k2
  exact wpAny_bind (wpAny_isInstance (T := "StopIteration") (b := true) ⟨o, ho, hc⟩ isSubtype_stop (wpAny_pure (hQ _ k1)))
/-- the tuple at a, each item in a new pair -/
def IteT (K : PySem.W.Frag) (a : Addr) : It :=
  ⟨fun i H => ∃ (xs : List V) (x : V), SqT K H a xs ∧ xs[i]? = some x, fun i H v H' => ∃ T x, v = .ref T ∧ H T = none ∧ H' = upd H T (.tup [.int (i : Nat), x]) ∧ ∀ xs, SqT K H a xs → xs[i]? = some x, fun i H => ∃ xs : List V, SqT K H a xs ∧ xs.length ≤ i⟩
theorem turn_enumT {P : Program} {w : World} {K : PySem.W.Frag} {elts : List Expr} {kk : Nat} {tpos : Pos} (a e it : Addr) :
    Turn P w K (.Tuple elts kk tpos) (IteT K a) [e, it] e (fun i h => (∃ old, IsEnum h e it ((i : Nat) : Int) old) ∧ h.IsTupleIter it a i ∧ e ≠ it ∧ e ≠ a ∧ a ≠ it) where
  mem := by simp
  obj := fun i h st b hb => by
    obtain ⟨⟨old, he⟩, ⟨o, ho, hc, hd⟩, _⟩ := st
    have e' : b = e ∨ b = it := by simpa using hb
    rcases e' with rfl | rfl
    · exact ⟨_, he, fun v q => nomatch q⟩
    · exact ⟨o, ho, fun v q => by rw [hd] at q; cases q⟩
  keep := fun i h h' st k => by
    obtain ⟨⟨old, he⟩, hi, hne⟩ := st
    exact ⟨⟨old, k e (by simp) _ he⟩, hi.at fun o q => k it (by simp) o q, hne⟩
  item := by
    intro X hP hw hK hc i pins s σ H E I hf st hg
    subst hP hw hK
    obtain ⟨⟨old, he⟩, hit, hne, hea, hai⟩ := st
    obtain ⟨xs, x, hq, hx⟩ := hg
    obtain ⟨its, rv, p, hz⟩ := I.tuple hq
    obtain ⟨u, hu, ru⟩ := rv.get hx
    have hel : e < s.heap.objs.size := Heap.lt_size he
    have hil : it < s.heap.objs.size := by obtain ⟨_, q, _⟩ := hit; exact Heap.lt_size q
    have lu := (List.getElem?_eq_some_iff.mp hu).1
    have hd : X.A.in1.handled = none := I.ok.hd hc
    refine wpAny_pyNext_enum_itemD (Draws.tuple hd it a hai its.toArray) he ⟨hit, p⟩ (by simpa using lu) hne (by simp [hne, hea]) fun y h' tk hy ho hst hT hsz hk => ?_
    have ey : y = u := by
      have : its[i]? = some y := by simpa using hy
      rw [hu] at this; cases this; rfl
    subst ey
    refine ⟨_, rfl, wpAny_letOwnedTupleGo_enum (s := { s with heap := h', toks := tk + 1 }) ho fun h'' he' sb => ?_⟩
    have hT2 : h''.get? s.heap.objs.size = some { cls := .type "tuple", data := .seq #[.int i tk, y] } := (sb.2 _ (Nat.ne_of_gt hel)).trans hT
    have new : ObjOk X.prog X.w (upd H s.heap.objs.size (.tup [.int (i : Nat), x])) h'' s.heap.objs.size (.tup [.int (i : Nat), x]) := ⟨by show 2 ≤ sizeLine; decide, [.int i tk, y], .cons ⟨_, rfl⟩ (.cons ru .nil), ⟨_, hT2, rfl, _, rfl⟩⟩
    have I1 : Inv X pins σ (upd H s.heap.objs.size (.tup [.int (i : Nat), x])) { s with heap := h'', toks := tk + 1 } := I.turnedNew (ch := [e, it]) (fun b ob hb q => (sb.2 b (fun z => hb (by simp [z]))).trans (hk b ob (fun z => hb (by simp [z])) (fun z => hb (by simp [z])) q)) hf (Nat.le_refl _) new
    refine ⟨.ref s.heap.objs.size, _, I1, rfl, ⟨_, x, rfl, I.hok.fresh (Nat.le_refl _), rfl, fun ys hy => by rw [I.tuple_inj hy hq]; exact hx⟩, ⟨⟨y, ?_⟩, hst.1.at fun o q => (sb.2 it (Ne.symm hne)).trans q, hne, hea, hai⟩, fun b hb => ?_⟩
    · rw [show ((i + 1 : Nat) : Int) = (i : Int) + 1 by omega]; exact he'
    · have hb' : b < s.heap.objs.size := by
        have e' : b = e ∨ b = it := by simpa using hb
        rcases e' with rfl | rfl
        · exact hel
        · exact hil
      rw [upd_ne (Nat.ne_of_lt hb')]
      exact (hf b hb).1
  done := by
    intro X hP hw hK hc i pins s σ H E I hf st hg
    subst hP hw hK
    obtain ⟨⟨old, he⟩, hit, hne, hea, hai⟩ := st
    obtain ⟨xs, hq, hx⟩ := hg
    obtain ⟨its, rv, p, hz⟩ := I.tuple hq
    obtain ⟨f0, f1, f2, f3, f4, f5⟩ := hf it (by simp)
    have hl := rv.length
    have hd : X.A.handled = none := I.ok.hd hc
    refine enum_endT hd he hit p (by simp; omega) fun h' eb => ⟨rfl, I.turned (t' := s.toks) (fun b o hb q => eb b o hb q) f0 f1 f3 f4 f5⟩
  self := fun A i s Q E st h => by
    obtain ⟨⟨_, he⟩, _⟩ := st
    exact wpAny_pyIter_enum he h
/-- enumerate of a list, of a tuple -/
def iEnumA (K : PySem.W.Frag) (ta : TA) : TI := fun σ H R => ta σ H fun vs H1 => ∃ a xs, vs = [.ref a] ∧ ((SqL K H1 a xs ∧ R (Ite K a) H1) ∨ (SqT K H1 a xs ∧ R (IteT K a) H1))
theorem pi_enumA {X : Cx} {e : Expr} {ta : TA} {p pos tpos : Pos} {elts : List Expr} {kk : Nat} (hg : Gl X "enumerate") (hm : X.mg "enumerate" = none) (ha : PA X [e] ta) (hs : starEach [e] X.env = [(false, eval e X.env)] := by rfl) :
    PI X (.Tuple elts kk tpos) (.Call (.Name "enumerate" p) [e] [] pos) (iEnumA X.K ta) := by
  refine ⟨fun pins s σ H R I h => ?_⟩
  refine Call_ (ld_blt I hg hm boot_enumerate (PyProof.Rows.callWith_type1 (thn (ha.run pos pins s σ H _ I h) fun us s1 ⟨vs, H1, I1, r1, q1⟩ => ?_) hs rfl))
  obtain ⟨a, xs, ex, q1⟩ := q1
  subst ex
  cases r1 with
  | cons r rr =>
    cases rr
    cases r
    have fr : ∀ b ∈ [s1.heap.objs.size + 1, s1.heap.objs.size], FpOk X pins H1 b := fun b hb => by
      have e' : b = s1.heap.objs.size + 1 ∨ b = s1.heap.objs.size := by simpa using hb
      have hle : s1.heap.objs.size ≤ b := by
        rcases e' with rfl | rfl
        · exact Nat.le_add_right _ _
        · exact Nat.le_refl _
      exact I1.fpOk hle (I1.hok.fresh hle)
    rcases q1 with ⟨hq, q⟩ | ⟨hq, q⟩
    · obtain ⟨its, rv, p', hz⟩ := I1.list hq
      refine call_enumerate_list p'.isList fun h' he hit hsz hk => wpAny_pyIter_enum he ?_
      exact ⟨s1.heap.objs.size + 1, [s1.heap.objs.size + 1, s1.heap.objs.size], _, _, H1, rfl, I1.kept (t' := s1.toks) hk, turn_enum a (s1.heap.objs.size + 1) s1.heap.objs.size, ⟨⟨.none, he⟩, hit, Nat.succ_ne_self _⟩, fr, q⟩
    · obtain ⟨its, rv, p', hz⟩ := I1.tuple hq
      have pt : s1.heap.IsTuple a its.toArray := p'
      have al : a < s1.heap.objs.size := by obtain ⟨o, ho, _⟩ := id pt; exact Heap.lt_size ho
      refine call_enumB (begins_tuple a its.toArray) pt fun h' he hit hk => wpAny_pyIter_enum he ?_
      exact ⟨s1.heap.objs.size + 1, [s1.heap.objs.size + 1, s1.heap.objs.size], _, _, H1, rfl, I1.kept (t' := s1.toks) hk, turn_enumT a (s1.heap.objs.size + 1) s1.heap.objs.size, ⟨⟨.none, he⟩, ⟨_, hit, rfl, rfl⟩, Nat.succ_ne_self _, Nat.ne_of_gt (Nat.lt_succ_of_lt al), Nat.ne_of_lt al⟩, fr, q⟩
end ZE

set_option Elab.async false
set_option linter.all false
set_option maxRecDepth 100000
set_option maxHeartbeats 4000000
/-! Z10: what is walked; loops; list comprehensions; defs. -/
namespace Z
open PySem PySem.Spec PyProof.Rows L2
variable {c : Ctx} {σ : L2.St} {H : Hp} {l : Pend} {r : Rho} {e : List It} {X : Cx} {Q : VK} {N : Ends} {nio : Nat}
abbrev Src := List D × List D
/-- J yields the items while what is kept stands -/
structure JOk (G : Cfg) (B : Bs) (J : L2.It) (kp : List It) (items : List D) : Prop where
  go : ∀ i H g, W G B H g → (∀ p ∈ kp, p ∈ g) → i < items.length → J.go i H
  stop : ∀ i H g, W G B H g → (∀ p ∈ kp, p ∈ g) → items.length ≤ i → J.stop i H
  yld : ∀ i H g x H' d, W G B H g → (∀ p ∈ kp, p ∈ g) → items[i]? = some d → J.yld i H x H' → W G B H' ((x, d) :: g)
def FinI (c : Ctx) (σ : L2.St) (e : List It) (R' : L2.It → Hp → Prop) : R Src → Prop
  | .ok p r1 => ∀ (J : L2.It) (vs : List V) H', vs.length = p.1.length → Alx c σ r1 → W c.G c.B H' (vs.zip p.1 ++ (e ++ envI σ r1)) → JOk c.G c.B J (vs.zip p.1) p.2 → R' J H'
  | .exc C ns ds r1 => PostX c σ e C ns ds r1
def ti (c : Ctx) (ms : M Src) : TI := fun σ H R' => ∃ r e x, Now c σ H [] r e ∧ ms r = some x ∧ FinI c σ e R' x
theorem pi_imp {tg ex : Expr} {t t' : TI} (h : PI X tg ex t) (k : ∀ σ H Q, t' σ H Q → t σ H Q) : PI X tg ex t' := ⟨fun pins s σ H R I q => h.run pins s σ H R I (k σ H R q)⟩
theorem pi_or {tg ex : Expr} {t t' : TI} (h : PI X tg ex t) (h' : PI X tg ex t') : PI X tg ex (fun σ H R => t σ H R ∨ t' σ H R) := ⟨fun pins s σ H R I q => q.elim (h.run pins s σ H R I) (h'.run pins s σ H R I)⟩

/-! ### a list, a tuple, a text -/
def srcSeq (m : M D) : M Src := bnd m fun d r => match knT d with
  | .lst o l => if noOwns l = true then some (.ok ([.lst o l], l) r) else none
  | .tup l => if noOwns l = true then some (.ok ([.tup l], l) r) else none
  | .str z => some (.ok ([.str z], z.cps.toList.map fun c => .str ⟨#[c]⟩) r)
  | _ => none
theorem jok_list {G : Cfg} {B : Bs} {K : PySem.W.Frag} (hG : G.K = K) {a : Addr} {o : Bool} {l : List D} (n : noOwns l = true) : JOk G B (Itl K a) [(.ref a, .lst o l)] l where
  go := fun i H g w k hi => by
    obtain ⟨b, xs, e, e1, c1⟩ := w.lst (k _ List.mem_cons_self)
    cases e
    exact ⟨xs, _, SqL.of e1, List.getElem?_eq_getElem (by rw [c1.len]; exact hi)⟩
  stop := fun i H g w k hi => by
    obtain ⟨b, xs, e, e1, c1⟩ := w.lst (k _ List.mem_cons_self)
    cases e
    exact ⟨xs, SqL.of e1, by rw [c1.len]; exact hi⟩
  yld := fun i H g x H' d w k hi ⟨e0, hy⟩ => by
    subst e0
    obtain ⟨b, xs, e, e1, c1⟩ := w.lst (k _ List.mem_cons_self)
    cases e
    exact w.add ((c1.kc n).cp i x d (hy xs (SqL.of e1)) hi)
theorem jok_tup {G : Cfg} {B : Bs} {K : PySem.W.Frag} (hG : G.K = K) {a : Addr} {l : List D} (n : noOwns l = true) : JOk G B (Itt K a) [(.ref a, .tup l)] l where
  go := fun i H g w k hi => by
    obtain ⟨b, xs, e, e1, c1⟩ := w.tup (k _ List.mem_cons_self)
    cases e
    exact ⟨xs, _, SqT.of e1, List.getElem?_eq_getElem (by rw [c1.len]; exact hi)⟩
  stop := fun i H g w k hi => by
    obtain ⟨b, xs, e, e1, c1⟩ := w.tup (k _ List.mem_cons_self)
    cases e
    exact ⟨xs, SqT.of e1, by rw [c1.len]; exact hi⟩
  yld := fun i H g x H' d w k hi ⟨e0, hy⟩ => by
    subst e0
    obtain ⟨b, xs, e, e1, c1⟩ := w.tup (k _ List.mem_cons_self)
    cases e
    exact w.add ((c1.kc n).cp i x d (hy xs (SqT.of e1)) hi)
theorem jok_str {G : Cfg} {B : Bs} {z : Str} {kp : List It} : JOk G B (Its z) kp (z.cps.toList.map fun c => .str ⟨#[c]⟩) where
  go := fun i H g w k hi => show i < z.cps.size by simpa using hi
  stop := fun i H g w k hi => show z.cps.size ≤ i by simpa using hi
  yld := fun i H g x H' d w k hi ⟨e0, c, hc, hx⟩ => by
    subst e0 hx
    rw [List.getElem?_map, Array.getElem?_toList, hc] at hi
    cases hi
    exact w.add (Cp.triv fun F => by simp [Tr])
theorem z_seq (hG : c.G.K = X.K) {tg ex : Expr} {m : M D} (h : PE X ex (tm c m)) : PI X tg ex (ti c (srcSeq m)) := pi_imp (pi_or (pi_list h) (pi_or (pi_tup h) (pi_str h))) fun σ H R' ⟨r, e, x, n, hx, fin⟩ => by
  rcases bnd_cases hx with ⟨d, r1, h1, h2⟩ | ⟨C, ns, ds, r1, h1, rfl⟩
  · cases q : knT d with
    | lst o l =>
      rw [q] at h2
      try dsimp only at h2
      split at h2
      · rename_i hn
        cases h2
        refine .inl ⟨r, e, _, n, h1, fun v H1 a w => ?_⟩
        have w1 := w.knT
        rw [q] at w1
        obtain ⟨b, xs, e1, e2, k⟩ := w1.lst List.mem_cons_self
        subst e1
        exact ⟨b, rfl, ⟨xs, SqL.of e2⟩, fin _ [.ref b] H1 rfl a w1 (jok_list hG hn)⟩
      · cases h2
    | tup l =>
      rw [q] at h2
      try dsimp only at h2
      split at h2
      · rename_i hn
        cases h2
        refine .inr (.inl ⟨r, e, _, n, h1, fun v H1 a w => ?_⟩)
        have w1 := w.knT
        rw [q] at w1
        obtain ⟨b, xs, e1, e2, k⟩ := w1.tup List.mem_cons_self
        subst e1
        exact ⟨b, rfl, ⟨xs, SqT.of e2⟩, fin _ [.ref b] H1 rfl a w1 (jok_tup hG hn)⟩
      · cases h2
    | str z =>
      rw [q] at h2
      cases h2
      refine .inr (.inr ⟨r, e, _, n, h1, fun v H1 a w => ?_⟩)
      have w1 := w.knT
      rw [q] at w1
      exact ⟨z, w1.str List.mem_cons_self, fin _ [v] H1 rfl a w1 jok_str⟩
    | _ => rw [q] at h2; cases h2
  · exact .inl ⟨r, e, _, n, h1, fin⟩

/-! ### range -/
def srcR1 (ms : M (List Opd)) : M Src := bnd ms fun os r => match opdDs r os with
  | some [.int j] => if -(2 ^ 62) ≤ j ∧ j < 2 ^ 62 then some (.ok ([], (List.range j.toNat).map fun i : Nat => D.int (0 + (i : Int))) r) else none
  | _ => none
def srcR2 (ms : M (List Opd)) : M Src := bnd ms fun os r => match opdDs r os with
  | some [.int i, .int j] => if -(2 ^ 62) ≤ i ∧ i < 2 ^ 62 ∧ -(2 ^ 62) ≤ j ∧ j < 2 ^ 62 then some (.ok ([], (List.range (j - i).toNat).map fun k : Nat => D.int (i + (k : Int))) r) else none
  | _ => none
theorem jok_range {G : Cfg} {B : Bs} {lo : Int} {n : Nat} {kp : List It} : JOk G B (Itr lo n) kp ((List.range n).map fun i : Nat => D.int (lo + (i : Int))) where
  go := fun i H g w k hi => show i < n by simpa using hi
  stop := fun i H g w k hi => show n ≤ i by simpa using hi
  yld := fun i H g x H' d w k hi ⟨e0, hx⟩ => by
    subst e0 hx
    rw [List.getElem?_map] at hi
    cases q : (List.range n)[i]? with
    | none => rw [q] at hi; cases hi
    | some j =>
      rw [q] at hi
      cases hi
      obtain ⟨hlt, ej⟩ := List.getElem?_eq_some_iff.mp q
      rw [List.getElem_range] at ej
      subst ej
      exact w.add (Cp.triv fun F => by simp [Tr])
theorem ti_bndA {ms : M (List Opd)} {f : List Opd → M Src} {R' : L2.It → Hp → Prop} (h : ti c (bnd ms f) σ H R') : tma c ms σ H fun vs H1 => ∃ r e os x, vs.length = os.length ∧ Now c σ H1 (vs.zip os) r e ∧ f os r = some x ∧ FinI c σ e R' x := by
  obtain ⟨r, e, x, n, hx, fin⟩ := h
  rcases bnd_cases hx with ⟨os, r1, h1, h2⟩ | ⟨C, ns, ds, r1, h1, rfl⟩
  · exact ⟨r, e, _, n, h1, fun vs H1 hl a vk w => ⟨r1, e, os, x, hl, ⟨a, vk, w⟩, h2, fin⟩⟩
  · exact ⟨r, e, _, n, h1, fin⟩
section
variable {tg a b : Expr} {ms : M (List Opd)} {p pos tpos : Pos} {elts : List Expr} {kk : Nat}
theorem z_range1 (hg : Gl X "range") (hm : X.mg "range" = none) (ha : PA X [a] (tma c ms)) (hs : starEach [a] X.env = [(false, eval a X.env)] := by rfl) : PI X tg (.Call (.Name "range" p) [a] [] pos) (ti c (srcR1 ms)) :=
  pi_imp (pi_range1 hg hm ha hs) fun σ H R' h => tma_mono (ti_bndA h) fun vs H1 ⟨r, e, os, x, hl, n, hx, fin⟩ => by
    try dsimp only at hx
    split at hx
    · rename_i j hd
      split at hx
      · rename_i hc
        cases hx
        have hm := opds_mem n hl (fun p hp => hp) hd
        match vs, os, hl, (show vs.length = 1 by rw [hl, ← opdDs_len hd]; rfl) with
        | [v], os, hl, _ =>
        have ev := W.int n.w (hm (v, .int j) (by simp))
        exact ⟨j, by rw [ev], hc.1, hc.2, fin _ [] H1 rfl n.al (W.drops n.w) jok_range⟩
      · cases hx
    · cases hx
theorem z_range2 (hg : Gl X "range") (hm : X.mg "range" = none) (ha : PA X [a, b] (tma c ms)) (hs : starEach [a, b] X.env = [(false, eval a X.env), (false, eval b X.env)] := by rfl) (hs2 : starEach [b] X.env = [(false, eval b X.env)] := by rfl) : PI X tg (.Call (.Name "range" p) [a, b] [] pos) (ti c (srcR2 ms)) :=
  pi_imp (pi_range2 hg hm ha hs hs2) fun σ H R' h => tma_mono (ti_bndA h) fun vs H1 ⟨r, e, os, x, hl, n, hx, fin⟩ => by
    try dsimp only at hx
    split at hx
    · rename_i i j hd
      split at hx
      · rename_i hc
        cases hx
        have hm := opds_mem n hl (fun p hp => hp) hd
        match vs, os, hl, (show vs.length = 2 by rw [hl, ← opdDs_len hd]; rfl) with
        | [v, u], os, hl, _ =>
        have ev := W.int n.w (hm (v, .int i) (by simp))
        have eu := W.int n.w (hm (u, .int j) (by simp))
        exact ⟨i, j, by rw [ev, eu], hc, fin _ [] H1 rfl n.al (W.drops n.w) jok_range⟩
      · cases hx
    · cases hx

/-! ### zip, enumerate -/
def srcZip (ms : M (List Opd)) : M Src := bnd ms fun os r => match tds os with
  | some [.lst o l, .lst o' l'] => if (noOwns l && noOwns l') = true then some (.ok ([.lst o l, .lst o' l'], List.zipWith (fun x y => .tup [x, y]) l l') r) else none
  | some [.tup l, .tup l'] => if (noOwns l && noOwns l') = true then some (.ok ([.tup l, .tup l'], List.zipWith (fun x y => .tup [x, y]) l l') r) else none
  | _ => none
theorem new2 {G : Cfg} {B : Bs} {g : List It} {T : Addr} {x y : V} {d d' : D} (w : W G B H g) (hT : H T = none) (c1 : Cp G H g x d) (c2 : Cp G H g y d') : W G B (upd H T (.tup [x, y])) ((.ref T, .tup [d, d']) :: g) := newT w hT (.cons c1 (.cons c2 .nil))
theorem zw_get {l l' : List D} {i : Nat} {d : D} (h : (List.zipWith (fun x y => D.tup [x, y]) l l')[i]? = some d) : ∃ x y, l[i]? = some x ∧ l'[i]? = some y ∧ d = .tup [x, y] := by
  rw [List.getElem?_zipWith] at h
  split at h
  · rename_i x y h1 h2
    cases h
    exact ⟨x, y, h1, h2, rfl⟩
  · cases h
theorem jok_zip {G : Cfg} {B : Bs} {K : PySem.W.Frag} {a b : Addr} {o o' : Bool} {l l' : List D} (n : noOwns l = true) (n' : noOwns l' = true) : JOk G B (Itz K a b) [(.ref a, .lst o l), (.ref b, .lst o' l')] (List.zipWith (fun x y => .tup [x, y]) l l') where
  go := fun i H g w k hi => by
    obtain ⟨_, xs, e, e1, c1⟩ := w.lst (k _ List.mem_cons_self)
    obtain ⟨_, ys, e', e2, c2⟩ := w.lst (k _ (List.mem_cons_of_mem _ List.mem_cons_self))
    cases e; cases e'
    rw [List.length_zipWith] at hi
    exact ⟨xs, ys, _, _, SqL.of e1, SqL.of e2, List.getElem?_eq_getElem (by rw [c1.len]; omega), List.getElem?_eq_getElem (by rw [c2.len]; omega)⟩
  stop := fun i H g w k hi => by
    obtain ⟨_, xs, e, e1, c1⟩ := w.lst (k _ List.mem_cons_self)
    obtain ⟨_, ys, e', e2, c2⟩ := w.lst (k _ (List.mem_cons_of_mem _ List.mem_cons_self))
    cases e; cases e'
    rw [List.length_zipWith] at hi
    exact ⟨xs, ys, SqL.of e1, SqL.of e2, by rw [c1.len, c2.len]; omega⟩
  yld := fun i H g x H' d w k hi ⟨T, x1, y1, ex, hT, eH, h1, h2⟩ => by
    subst ex eH
    obtain ⟨_, xs, e, e1, c1⟩ := w.lst (k _ List.mem_cons_self)
    obtain ⟨_, ys, e', e2, c2⟩ := w.lst (k _ (List.mem_cons_of_mem _ List.mem_cons_self))
    cases e; cases e'
    obtain ⟨d1, d2, q1, q2, rfl⟩ := zw_get hi
    exact new2 w hT ((c1.kc n).cp i _ _ (h1 xs (SqL.of e1)) q1) ((c2.kc n').cp i _ _ (h2 ys (SqL.of e2)) q2)
theorem jok_zipT {G : Cfg} {B : Bs} {K : PySem.W.Frag} {a b : Addr} {l l' : List D} (n : noOwns l = true) (n' : noOwns l' = true) : JOk G B (RZ.ItzT K a b) [(.ref a, .tup l), (.ref b, .tup l')] (List.zipWith (fun x y => .tup [x, y]) l l') where
  go := fun i H g w k hi => by
    obtain ⟨_, xs, e, e1, c1⟩ := w.tup (k _ List.mem_cons_self)
    obtain ⟨_, ys, e', e2, c2⟩ := w.tup (k _ (List.mem_cons_of_mem _ List.mem_cons_self))
    cases e; cases e'
    rw [List.length_zipWith] at hi
    exact ⟨xs, ys, _, _, SqT.of e1, SqT.of e2, List.getElem?_eq_getElem (by rw [c1.len]; omega), List.getElem?_eq_getElem (by rw [c2.len]; omega)⟩
  stop := fun i H g w k hi => by
    obtain ⟨_, xs, e, e1, c1⟩ := w.tup (k _ List.mem_cons_self)
    obtain ⟨_, ys, e', e2, c2⟩ := w.tup (k _ (List.mem_cons_of_mem _ List.mem_cons_self))
    cases e; cases e'
    rw [List.length_zipWith] at hi
    exact ⟨xs, ys, SqT.of e1, SqT.of e2, by rw [c1.len, c2.len]; omega⟩
  yld := fun i H g x H' d w k hi ⟨T, x1, y1, ex, hT, eH, h1, h2⟩ => by
    subst ex eH
    obtain ⟨_, xs, e, e1, c1⟩ := w.tup (k _ List.mem_cons_self)
    obtain ⟨_, ys, e', e2, c2⟩ := w.tup (k _ (List.mem_cons_of_mem _ List.mem_cons_self))
    cases e; cases e'
    obtain ⟨d1, d2, q1, q2, rfl⟩ := zw_get hi
    exact new2 w hT ((c1.kc n).cp i _ _ (h1 xs (SqT.of e1)) q1) ((c2.kc n').cp i _ _ (h2 ys (SqT.of e2)) q2)
theorem z_zip (hg : Gl X "zip") (hm : X.mg "zip" = none) (ha : PA X [a, b] (tma c ms)) (hs : starEach [a, b] X.env = (false, eval a X.env) :: starEach [b] X.env := by rfl) (hpl : (backTo pos (starEach [b] X.env)).any (·.1) = false := by rfl) :
    PI X (.Tuple elts kk tpos) (.Call (.Name "zip" p) [a, b] [] pos) (ti c (srcZip ms)) :=
  pi_imp (RZ.pi_zipA hg hm ha hs hpl) fun σ H R' h => tma_mono (ti_bndA h) fun vs H1 ⟨r, e, os, x, hl, n, hx, fin⟩ => by
    try dsimp only at hx
    split at hx
    · rename_i o l o' l' hd
      split at hx
      · rename_i hn
        have hn' : noOwns l = true ∧ noOwns l' = true := by simpa using hn
        cases hx
        obtain ⟨q1, q2⟩ := tds_tmps hl hd
        have w := n.w
        rw [q1] at w
        match vs, (show vs.length = 2 by rw [hl, ← q2]; rfl) with
        | [v, u], _ =>
        obtain ⟨b1, xs, e1, e2, c1⟩ := w.lst (v := v) List.mem_cons_self
        obtain ⟨b2, ys, e3, e4, c2⟩ := w.lst (v := u) (List.mem_cons_of_mem _ List.mem_cons_self)
        subst e1 e3
        exact ⟨b1, b2, xs, ys, rfl, .inl ⟨SqL.of e2, SqL.of e4, fin _ [.ref b1, .ref b2] H1 rfl n.al w (jok_zip hn'.1 hn'.2)⟩⟩
      · cases hx
    · rename_i l l' hd
      split at hx
      · rename_i hn
        have hn' : noOwns l = true ∧ noOwns l' = true := by simpa using hn
        cases hx
        obtain ⟨q1, q2⟩ := tds_tmps hl hd
        have w := n.w
        rw [q1] at w
        match vs, (show vs.length = 2 by rw [hl, ← q2]; rfl) with
        | [v, u], _ =>
        obtain ⟨b1, xs, e1, e2, c1⟩ := w.tup (v := v) List.mem_cons_self
        obtain ⟨b2, ys, e3, e4, c2⟩ := w.tup (v := u) (List.mem_cons_of_mem _ List.mem_cons_self)
        subst e1 e3
        exact ⟨b1, b2, xs, ys, rfl, .inr ⟨SqT.of e2, SqT.of e4, fin _ [.ref b1, .ref b2] H1 rfl n.al w (jok_zipT hn'.1 hn'.2)⟩⟩
      · cases hx
    · cases hx
def enumD (i : Nat) : List D → List D
  | [] => []
  | d :: l => .tup [.int (i : Nat), d] :: enumD (i + 1) l
theorem enumD_len : ∀ (i : Nat) (l : List D), (enumD i l).length = l.length
  | _, [] => rfl
  | i, _ :: l => by simp [enumD, enumD_len]
theorem enumD_get : ∀ {i : Nat} {l : List D} {j : Nat} {d : D}, (enumD i l)[j]? = some d → ∃ x, l[j]? = some x ∧ d = .tup [.int ((i + j : Nat) : Int), x]
  | _, [], _, _, h => by simp [enumD] at h
  | i, x :: l, 0, d, h => by simp [enumD] at h; exact ⟨x, rfl, h.symm⟩
  | i, x :: l, j + 1, d, h => by
    obtain ⟨y, h1, h2⟩ := enumD_get (i := i + 1) (l := l) (j := j) (by simpa [enumD] using h)
    refine ⟨y, by simpa using h1, ?_⟩
    rw [h2, show i + 1 + j = i + (j + 1) by omega]
def srcEn (ms : M (List Opd)) : M Src := bnd ms fun os r => match tds os with
  | some [.lst o l] => if noOwns l = true then some (.ok ([.lst o l], enumD 0 l) r) else none
  | some [.tup l] => if noOwns l = true then some (.ok ([.tup l], enumD 0 l) r) else none
  | _ => none
theorem jok_enum {G : Cfg} {B : Bs} {K : PySem.W.Frag} {a : Addr} {o : Bool} {l : List D} (n : noOwns l = true) : JOk G B (Ite K a) [(.ref a, .lst o l)] (enumD 0 l) where
  go := fun i H g w k hi => by
    obtain ⟨_, xs, e, e1, c1⟩ := w.lst (k _ List.mem_cons_self)
    cases e
    rw [enumD_len] at hi
    exact ⟨xs, _, SqL.of e1, List.getElem?_eq_getElem (by rw [c1.len]; exact hi)⟩
  stop := fun i H g w k hi => by
    obtain ⟨_, xs, e, e1, c1⟩ := w.lst (k _ List.mem_cons_self)
    cases e
    rw [enumD_len] at hi
    exact ⟨xs, SqL.of e1, by rw [c1.len]; exact hi⟩
  yld := fun i H g x H' d w k hi ⟨T, x1, ex, hT, eH, h1⟩ => by
    subst ex eH
    obtain ⟨_, xs, e, e1, c1⟩ := w.lst (k _ List.mem_cons_self)
    cases e
    obtain ⟨y, q1, rfl⟩ := enumD_get hi
    rw [Nat.zero_add]
    exact new2 w hT (Cp.triv fun F => by simp [Tr]) ((c1.kc n).cp i _ _ (h1 xs (SqL.of e1)) q1)
theorem jok_enumT {G : Cfg} {B : Bs} {K : PySem.W.Frag} {a : Addr} {l : List D} (n : noOwns l = true) : JOk G B (ZE.IteT K a) [(.ref a, .tup l)] (enumD 0 l) where
  go := fun i H g w k hi => by
    obtain ⟨_, xs, e, e1, c1⟩ := w.tup (k _ List.mem_cons_self)
    cases e
    rw [enumD_len] at hi
    exact ⟨xs, _, SqT.of e1, List.getElem?_eq_getElem (by rw [c1.len]; exact hi)⟩
  stop := fun i H g w k hi => by
    obtain ⟨_, xs, e, e1, c1⟩ := w.tup (k _ List.mem_cons_self)
    cases e
    rw [enumD_len] at hi
    exact ⟨xs, SqT.of e1, by rw [c1.len]; exact hi⟩
  yld := fun i H g x H' d w k hi ⟨T, x1, ex, hT, eH, h1⟩ => by
    subst ex eH
    obtain ⟨_, xs, e, e1, c1⟩ := w.tup (k _ List.mem_cons_self)
    cases e
    obtain ⟨y, q1, rfl⟩ := enumD_get hi
    rw [Nat.zero_add]
    exact new2 w hT (Cp.triv fun F => by simp [Tr]) ((c1.kc n).cp i _ _ (h1 xs (SqT.of e1)) q1)
theorem z_enum (hg : Gl X "enumerate") (hm : X.mg "enumerate" = none) (ha : PA X [a] (tma c ms)) (hs : starEach [a] X.env = [(false, eval a X.env)] := by rfl) :
    PI X (.Tuple elts kk tpos) (.Call (.Name "enumerate" p) [a] [] pos) (ti c (srcEn ms)) :=
  pi_imp (ZE.pi_enumA hg hm ha hs) fun σ H R' h => tma_mono (ti_bndA h) fun vs H1 ⟨r, e, os, x, hl, n, hx, fin⟩ => by
    try dsimp only at hx
    split at hx
    · rename_i o l hd
      split at hx
      · rename_i hn
        cases hx
        obtain ⟨q1, q2⟩ := tds_tmps hl hd
        have w := n.w
        rw [q1] at w
        match vs, (show vs.length = 1 by rw [hl, ← q2]; rfl) with
        | [v], _ =>
        obtain ⟨b1, xs, e1, e2, c1⟩ := w.lst (v := v) List.mem_cons_self
        subst e1
        exact ⟨b1, xs, rfl, .inl ⟨SqL.of e2, fin _ [.ref b1] H1 rfl n.al w (jok_enum hn)⟩⟩
      · cases hx
    · rename_i l hd
      split at hx
      · rename_i hn
        cases hx
        obtain ⟨q1, q2⟩ := tds_tmps hl hd
        have w := n.w
        rw [q1] at w
        match vs, (show vs.length = 1 by rw [hl, ← q2]; rfl) with
        | [v], _ =>
        obtain ⟨b1, xs, e1, e2, c1⟩ := w.tup (v := v) List.mem_cons_self
        subst e1
        exact ⟨b1, xs, rfl, .inr ⟨SqT.of e2, fin _ [.ref b1] H1 rfl n.al w (jok_enumT hn)⟩⟩
      · cases hx
    · cases hx
end

/-! ### for -/
def forL (g : MT) (b : MS) : List D → MS
  | [] => fun r => some (.nx r)
  | d :: ds => fun r => match g d r with
    | some r1 => (match b r1 with
      | some (.nx r2) => forL g b ds r2
      | some (.ct r2) => forL g b ds r2
      | some (.bk r2) => some (.nx r2)
      | x => x)
    | none => none
def forS (src : M Src) (g : MT) (b : MS) : MS := bndS src fun p => forL g b p.2
theorem z_for {tg iter : Expr} {body : List Stmt} {pos : Pos} {src : M Src} {g : MT} {vs : List Nat} {mb : MS} (hp : PassesOwn (model X.prog X.w) X.A X.env X.xe) (hc : X.calm = true) (hi : PI X tg iter (ti c src)) (hg : PG X tg (tG c vs g)) (hb : PSs X body (tS c mb))
    (hs : ∀ x, foldedSetIterable iter X.env x = pure x := by intro _; rfl) : PS X (.For tg iter body [] pos) (tS c (forS src g mb)) := ps_imp (ps_for hp hc hi hg hb hs) fun N σ H ⟨r, e, x, n, hx, fin⟩ => by
  rcases bndS_cases hx with ⟨p, r1, h1, h2⟩ | ⟨C, ns, ds, r1, h1, rfl⟩
  · refine ⟨r, e, _, n, h1, fun J us H1 hl a w jk => ?_⟩
    refine ⟨fun i m σ H => m = p.2.length - i ∧ i ≤ p.2.length ∧ ∃ r, Alx c σ r ∧ W c.G c.B H (us.zip p.1 ++ (e ++ envI σ r)) ∧ forL g mb (p.2.drop i) r = some x, ⟨p.2.length, rfl, Nat.zero_le _, r1, a, w, h2⟩, ?_⟩
    rintro i m σ H ⟨rfl, hi, r, a, w, hf⟩
    have sub : ∀ q ∈ us.zip p.1, q ∈ us.zip p.1 ++ (e ++ envI σ r) := fun q hq => List.mem_append_left _ hq
    by_cases hlt : i < p.2.length
    · refine .inr ⟨jk.go i H _ w sub hlt, fun σ' H' => ∃ r', Alx c σ' r' ∧ W c.G c.B H' (us.zip p.1 ++ (e ++ envI σ' r')) ∧ forL g mb (p.2.drop (i + 1)) r' = some x, fun σ' H' q => ⟨p.2.length - (i + 1), by omega, rfl, hlt, q⟩, fun xv H' hy => ?_⟩
      rw [List.drop_eq_getElem_cons hlt] at hf
      have w2 := jk.yld i H _ xv H' p.2[i] w sub (List.getElem?_eq_getElem hlt) hy
      unfold forL at hf
      split at hf
      · rename_i r2 hg2
        refine ⟨r, us.zip p.1 ++ e, p.2[i], r2, a, by rw [List.append_assoc]; exact w2, hg2, fun σ2 H2 _ a2 w3 => ?_⟩
        cases q : mb r2 with
        | none => rw [q] at hf; cases hf
        | some y =>
          rw [q] at hf
          refine ⟨r2, us.zip p.1 ++ e, y, ⟨a2, Vok.nil, w3⟩, q, ?_⟩
          cases y with
          | nx r3 => exact fun σ' H' a w => ⟨r3, a, by rw [← List.append_assoc]; exact w, hf⟩
          | ct r3 => exact fun σ' H' a w => ⟨r3, a, by rw [← List.append_assoc]; exact w, hf⟩
          | bk r3 => cases hf; exact fun σ' H' a w => fin σ' H' a (W.drops (l := us.zip p.1) (by rw [← List.append_assoc]; exact w))
          | rt d r3 =>
            cases hf
            exact fun v σ' H' a w => fin v σ' H' a (W.drops (l := us.zip p.1) (w.perm (by
              rw [List.append_assoc]
              exact List.perm_middle.symm)))
          | exc C ns ds r3 => cases hf; exact fun σ' => (fin σ').dropMid
      · cases hf
    · have ei : i = p.2.length := by omega
      subst ei
      rw [List.drop_length] at hf
      cases hf
      exact .inl ⟨jk.stop _ H _ w sub (Nat.le_refl _), fin σ H a (W.drops w)⟩
  · exact ⟨r, e, _, n, h1, fin σ⟩

/-! ### list comprehensions -/
def wipeR (r : Rho) : List Nat → Rho
  | [] => r
  | v :: vs => (wipeR r vs).set v none
theorem wipe_idem : ∀ (vs : List Nat) (σ : L2.St), wipe (wipe σ vs) vs = wipe σ vs := by
  have : ∀ (us vs : List Nat) (σ : L2.St), (∀ i ∈ us, i ∈ vs) → wipe (wipe σ us) vs = wipe σ vs := by
    intro us
    induction us with
    | nil => intro vs σ _; rfl
    | cons u us ih =>
      intro vs σ h
      show wipe ((wipe σ us).set u none) vs = _
      rw [wipe_set (h u List.mem_cons_self), ih vs σ fun i hi => h i (List.mem_cons_of_mem _ hi)]
  exact fun vs σ => this vs vs σ fun _ h => h
theorem Al.wipe : ∀ {vs : List Nat} {σ : L2.St} {r : Rho}, Al σ r → Al (wipe σ vs) (wipeR r vs)
  | [], _, _, a => a
  | v :: vs, σ, r, a => (Al.wipe (vs := vs) a).set fun z => by cases z
theorem env_none {G : Cfg} {B : Bs} {i : Nat} {g : List It} (w : W G B H (g ++ envI σ r)) (a : Al σ r) : W G B H (g ++ envI (σ.set i none) (r.set i none)) := by
  rw [envI_set a.len]
  by_cases il : i < (envI σ r).length
  · have w1 := w.mid (perm_erase (List.getElem?_eq_getElem il))
    have w2 : W G B H ((V.non, D.non) :: (g ++ (envI σ r).eraseIdx i)) := w1.drop.add (Cp.triv fun F => by simp [Tr])
    exact W.unmid w2 (perm_set il)
  · rw [List.set_eq_of_length_le (by omega)]
    exact w
theorem W.wipe {G : Cfg} {B : Bs} {g : List It} : ∀ {vs : List Nat}, W G B H (g ++ envI σ r) → Al σ r → W G B H (g ++ envI (L2.wipe σ vs) (wipeR r vs))
  | [], w, _ => w
  | v :: vs, w, a => env_none (W.wipe (vs := vs) w a) a.wipe
theorem env_any {i : Nat} {y : Option V} : ∀ {σ : L2.St} {r : Rho}, r[i]? = some none ∨ r.length ≤ i → envI (σ.set i y) r = envI σ r
  | [], r, _ => by simp
  | s :: σ, [], _ => by simp [envI]
  | s :: σ, d :: r, h => by
    cases i with
    | zero =>
      rcases h with h | h
      · simp at h
        subst h
        cases y <;> cases s <;> rfl
      · simp at h
    | succ i =>
      simp only [List.set_cons_succ, envI, List.zipWith_cons_cons]
      congr 1
      exact env_any (σ := σ) (r := r) (h.imp (by simp) (by simp))
theorem wipeR_get {i : Nat} : ∀ {vs : List Nat} {r : Rho}, i ∈ vs → (wipeR r vs)[i]? = some none ∨ (wipeR r vs).length ≤ i
  | [], _, h => nomatch h
  | v :: vs, r, h => by
    unfold wipeR
    by_cases e : v = i
    · subst e
      by_cases il : v < (wipeR r vs).length
      · exact .inl (List.getElem?_set_self il)
      · exact .inr (by rw [List.length_set]; omega)
    · rw [List.getElem?_set_ne e, List.length_set]
      exact wipeR_get ((List.mem_cons.mp h).resolve_left fun z => e z.symm)
theorem env_wipe {vs : List Nat} {σ : L2.St} {r : Rho} : envI (L2.wipe σ vs) (wipeR r vs) = envI σ (wipeR r vs) := by
  have : ∀ (us : List Nat) (σ : L2.St), (∀ i ∈ us, i ∈ vs) → envI (L2.wipe σ us) (wipeR r vs) = envI σ (wipeR r vs) := by
    intro us
    induction us with
    | nil => intro σ _; rfl
    | cons u us ih =>
      intro σ h
      show envI ((L2.wipe σ us).set u none) _ = _
      rw [env_any (wipeR_get (h u List.mem_cons_self)), ih σ fun i hi => h i (List.mem_cons_of_mem _ hi)]
  exact this vs σ fun _ h => h
theorem wipe_ne {i : Nat} : ∀ {vs : List Nat} {σ : L2.St}, i ∉ vs → (L2.wipe σ vs)[i]? = σ[i]?
  | [], _, _ => rfl
  | v :: vs, σ, h => by
    simp only [List.mem_cons, not_or] at h
    unfold L2.wipe
    rw [List.getElem?_set_ne (Ne.symm h.1), wipe_ne h.2]
theorem Alx.wipe {vs : List Nat} (a : Alx c σ r) (h : ∀ p ∈ c.ios, p.1 ∉ vs) : Alx c (L2.wipe σ vs) (wipeR r vs) := ⟨a.al.wipe, fun p hp => by rw [wipe_ne (h p hp)]; exact a.io p hp⟩
theorem Alx.unwipe {vs : List Nat} (a : Alx c (L2.wipe σ vs) r) (h : ∀ p ∈ c.ios, p.1 ∉ vs) : Alx c σ r := ⟨⟨by rw [← a.al.len, wipe_length], fun i d hi => by
  obtain ⟨v, hv⟩ := a.al.has i d hi
  exact ⟨v, (wipe_some hv).1⟩⟩, fun p hp => by
  have := a.io p hp
  rw [wipe_ne (h p hp)] at this
  exact this⟩
/-- the comprehension's turns; what comes, the names behind it -/
def lcL (vs : List Nat) (g : MT) (t m : M D) : List D → Rho → Option (List D × Rho)
  | [], r => some ([], r)
  | d :: ds, r => match g d r with
    | some r1 => (match t r1 with
      | some (.ok (.bl true) r2) => (match m r2 with
        | some (.ok x r3) => (match lcL vs g t m ds (wipeR r3 vs) with
          | some (xs, r4) => some (x :: xs, r4)
          | none => none)
        | _ => none)
      | some (.ok (.bl false) r2) => lcL vs g t m ds (wipeR r2 vs)
      | _ => none)
    | none => none
def lcM (vs : List Nat) (src : M Src) (g : MT) (t m : M D) : M D := bnd src fun p r => match lcL vs g t m p.2 (wipeR r vs) with
  | some (xs, r1) => if p.2.length ≤ 10000000 then some (.ok (.lst true xs) r1) else none
  | none => none
theorem lcL_len {vs : List Nat} {g : MT} {t m : M D} : ∀ {ds : List D} {r : Rho} {xs : List D} {r1 : Rho}, lcL vs g t m ds r = some (xs, r1) → xs.length ≤ ds.length
  | [], _, _, _, h => by cases h; exact Nat.le_refl _
  | d :: ds, r, xs, r1, h => by
    unfold lcL at h
    split at h
    · split at h
      · split at h
        · split at h
          · rename_i q
            cases h
            have := lcL_len q
            simp only [List.length_cons]
            omega
          · cases h
        · cases h
      · have := lcL_len h
        simp only [List.length_cons]
        omega
      · cases h
    · cases h
def yesM : M D := ret (.bl true)
theorem z_ptsnil : PTs X [] (tmB c yesM) := ⟨fun pins s σ H Q I h => pts_nil.run pins s σ H Q I (ret_blB h)⟩
theorem z_pts1 {t : Expr} {mt : M D} (h : PT X t (tmB c mt)) : PTs X [t] (tmB c mt) := pts_one h
theorem lc_red {src : M Src} {g : MT} {t m : M D} {vs : List Nat} (hv : ∀ p ∈ c.ios, p.1 ∉ vs) (h : tm c (lcM vs src g t m) σ H Q) : tLc (ti c src) (tG c vs g) (tmB c t) (tm c m) vs σ H Q := by
  obtain ⟨r, e, x, n, hx, fin⟩ := h
  rcases bnd_cases hx with ⟨p, r1, h1, h2⟩ | ⟨C, ns, ds, r1, h1, rfl⟩
  · refine ⟨r, e, _, n, h1, fun J us H1 hl a w jk Dd hD => ?_⟩
    try dsimp only at h2
    split at h2
    · rename_i xs r9 hlc
      split at h2
      · rename_i hz
        cases h2
        have wD : W c.G c.B (upd H1 Dd (.lst [])) ((.ref Dd, .lst true []) :: (us.zip p.1 ++ (e ++ envI σ r1))) := newL w hD .nil
        have wD' : W c.G c.B (upd H1 Dd (.lst [])) (((.ref Dd, .lst true []) :: (us.zip p.1 ++ e)) ++ envI σ r1) := by
          show W c.G c.B _ ((V.ref Dd, D.lst true []) :: ((us.zip p.1 ++ e) ++ envI σ r1))
          rw [List.append_assoc]; exact wD
        refine ⟨fun i m' H => m' = p.2.length - i ∧ i ≤ p.2.length ∧ ∃ r acc rest, Alx c (wipe σ vs) r ∧ envI (wipe σ vs) r = envI σ r ∧ W c.G c.B H ((.ref Dd, .lst true acc) :: (us.zip p.1 ++ (e ++ envI (wipe σ vs) r))) ∧ lcL vs g t m (p.2.drop i) r = some (rest, r9) ∧ xs = acc ++ rest ∧ acc.length ≤ i,
          ⟨p.2.length, rfl, Nat.zero_le _, wipeR r1 vs, [], xs, a.wipe hv, env_wipe, ?_, hlc, rfl, Nat.le_refl _⟩, ?_⟩
        · have := W.wipe (vs := vs) wD' a.al
          simpa [List.append_assoc] using this
        · rintro i m' H ⟨rfl, hi, r, acc, rest, a, ew, w, hf, ex, hacc⟩
          have sub : ∀ q ∈ us.zip p.1, q ∈ (V.ref Dd, D.lst true acc) :: (us.zip p.1 ++ (e ++ envI (wipe σ vs) r)) := fun q hq => List.mem_cons_of_mem _ (List.mem_append_left _ hq)
          by_cases hlt : i < p.2.length
          · refine .inr ⟨jk.go i H _ w sub hlt, fun H' => ∃ r acc rest, Alx c (wipe σ vs) r ∧ envI (wipe σ vs) r = envI σ r ∧ W c.G c.B H' ((.ref Dd, .lst true acc) :: (us.zip p.1 ++ (e ++ envI (wipe σ vs) r))) ∧ lcL vs g t m (p.2.drop (i + 1)) r = some (rest, r9) ∧ xs = acc ++ rest ∧ acc.length ≤ i + 1,
              fun H' q => ⟨p.2.length - (i + 1), by omega, rfl, hlt, q⟩, fun xv H' hy => ?_⟩
            rw [List.drop_eq_getElem_cons hlt] at hf
            have w2 := jk.yld i H _ xv H' p.2[i] w sub (List.getElem?_eq_getElem hlt) hy
            unfold lcL at hf
            split at hf
            · rename_i r2 hg2
              refine ⟨r, (.ref Dd, .lst true acc) :: (us.zip p.1 ++ e), p.2[i], r2, a, by simpa [List.append_assoc] using w2, hg2, fun σ2 H2 wp a2 w3 => ⟨by rw [wp, wipe_idem], ?_⟩⟩
              have wp2 : wipe σ2 vs = wipe σ vs := by rw [wp, wipe_idem]
              split at hf
              · rename_i r3 ht
                refine ⟨r2, (.ref Dd, .lst true acc) :: (us.zip p.1 ++ e), _, ⟨a2, Vok.nil, w3⟩, ht, fun H3 a3 w4 => iteT ?_⟩
                split at hf
                · rename_i y r4 hm
                  refine ⟨r3, (.ref Dd, .lst true acc) :: (us.zip p.1 ++ e), _, ⟨a3, Vok.nil, w4⟩, hm, fun yv H4 a4 w5 => ?_⟩
                  split at hf
                  · rename_i rest' r5 hrec
                    cases hf
                    have w6 : W c.G c.B H4 ((.ref Dd, .lst true acc) :: ((yv, y) :: ((us.zip p.1 ++ e) ++ envI σ2 r4))) := w5.perm (List.Perm.swap _ _ _)
                    obtain ⟨b, zs, e1, e2, ln, wo⟩ := w6.openL
                    cases e1
                    have w7 : W c.G c.B (upd H4 Dd (.lst (zs ++ [yv]))) ((.ref Dd, .lst true (acc ++ [y])) :: ((us.zip p.1 ++ e) ++ envI σ2 r4)) := Wo.closeL (by rw [zip_app1 ln]; simpa [List.append_assoc] using wo) (by simp [ln])
                    refine ⟨zs, e2, ?_, wipeR r4 vs, acc ++ [y], rest', by rw [← wp2]; exact a4.wipe hv, env_wipe, ?_, hrec, by rw [ex]; simp, by simp; omega⟩
                    · rw [ln]
                      exact Nat.lt_of_lt_of_le (show acc.length < 10000000 by omega) (lim_ok (Nat.le_refl _))
                    · have := W.wipe (g := (.ref Dd, .lst true (acc ++ [y])) :: (us.zip p.1 ++ e)) (vs := vs) w7 a4.al
                      rw [wp2] at this
                      simpa [List.append_assoc] using this
                  · cases hf
                · cases hf
              · rename_i r3 ht
                refine ⟨r2, (.ref Dd, .lst true acc) :: (us.zip p.1 ++ e), _, ⟨a2, Vok.nil, w3⟩, ht, fun H3 a3 w4 => iteF ?_⟩
                refine ⟨wipeR r3 vs, acc, rest, by rw [← wp2]; exact a3.wipe hv, env_wipe, ?_, hf, ex, by omega⟩
                have := W.wipe (vs := vs) w4 a3.al
                rw [wp2] at this
                simpa [List.append_assoc] using this
              · cases hf
            · cases hf
          · have ei : i = p.2.length := by omega
            subst ei
            rw [List.drop_length] at hf
            cases hf
            rw [List.append_nil] at ex
            subst ex
            refine .inl ⟨jk.stop _ H _ w sub (Nat.le_refl _), fin _ H (a.unwipe hv) ?_⟩
            rw [ew] at w
            exact W.drops (l := us.zip p.1) (w.perm List.perm_middle.symm)
      · cases h2
    · cases h2
  · exact ⟨r, e, _, n, h1, fin⟩
section
variable {elt tg iter : Expr} {ifs : List Expr} {scope : Scope} {own : List (Str × Nat)} {pos : Pos} {src : M Src} {g : MT} {mt me : M D}
theorem z_lc (own : List (Str × Nat)) (hio : ∀ p ∈ c.ios, p.1 < nio) (hc : X.calm = true) (hN : X.N.Nodup) (hi : PI X tg iter (ti c src))
    (hg : ∀ (s : Shared) (H : Hp) (C : Addr) (cl : List (Str × Addr)) (fp : List Addr), PG (X.blk s H scope (compEnvC scope cl C X.env) fp) tg (tG c (own.map (·.2)) g)) (ht : ∀ (s : Shared) (H : Hp) (C : Addr) (cl : List (Str × Addr)) (fp : List Addr), PTs (X.blk s H scope (compEnvC scope cl C X.env) fp) ifs (tmB c mt))
    (he : ∀ (s : Shared) (H : Hp) (C : Addr) (cl : List (Str × Addr)) (fp : List Addr), PE (X.blk s H scope (compEnvC scope cl C X.env) fp) elt (tm c me)) (ok : BlkOk X.N X.env.scope scope own := by exact blkOk_by (by rfl)) (hv : ∀ i ∈ own.map (·.2), nio ≤ i := by decide) (hs : ∀ x, foldedSetIterable iter X.env x = pure x := by intro _; rfl) :
    PE X (.ListComp elt [⟨tg, iter, ifs, 0⟩] scope pos) (tm c (lcM (own.map (·.2)) src g mt me)) :=
  pe_imp (pe_lc hc hN hi ok hg ht he hs) fun σ H Q => lc_red fun p hp hm => by have := hio p hp; have := hv _ hm; omega
theorem z_setLc {x : Str} {py spos : Pos} (i : Nat) (own : List (Str × Nat)) (hio : ∀ p ∈ c.ios, p.1 < nio) (hc : X.calm = true) (hN : X.N.Nodup) (hi : PI X tg iter (ti c src))
    (hg : ∀ (s : Shared) (H : Hp) (C : Addr) (cl : List (Str × Addr)) (fp : List Addr), PG (X.blk s H scope (compEnvC scope cl C X.env) fp) tg (tG c (own.map (·.2)) g)) (ht : ∀ (s : Shared) (H : Hp) (C : Addr) (cl : List (Str × Addr)) (fp : List Addr), PTs (X.blk s H scope (compEnvC scope cl C X.env) fp) ifs (tmB c mt))
    (he : ∀ (s : Shared) (H : Hp) (C : Addr) (cl : List (Str × Addr)) (fp : List Addr), PE (X.blk s H scope (compEnvC scope cl C X.env) fp) elt (tm c me))
    (hk : X.env.scope.kind = .function := by rfl) (hl : (py.line == pos.line) = true := by rfl) (ha : (scope.names.any fun (n, k) => n == x && (k == .local || k == .cell)) = false := by rfl)
    (hx : X.N[i]? = some x := by rfl) (hyl : X.env.scope.names.lookup x = some .local := by rfl)
    (ok : BlkOk X.N X.env.scope scope own := by exact blkOk_by (by rfl)) (hv : ∀ i ∈ own.map (·.2), nio ≤ i := by decide) (h1 : nio ≤ i := by decide) (hs : ∀ x, foldedSetIterable iter X.env x = pure x := by intro _; rfl) :
    PS X (.Assign [.Name x py] (.ListComp elt [⟨tg, iter, ifs, 0⟩] scope pos) spos) (tS c (setS i (lcM (own.map (·.2)) src g mt me))) :=
  ps_imp (ps_setLc hc hN hx hyl (sw_true hk hyl hl ha) hi ok hg ht he hs) fun N σ H h => lc_red (fun p hp hm => by have := hio p hp; have := hv _ hm; omega) (by
    obtain ⟨r, e, y, n, hx, fin⟩ := h
    rcases bndS_cases hx with ⟨d, r1, h1', h2⟩ | ⟨C, ns, ds, r1, h1', rfl⟩
    · refine ⟨r, e, _, n, h1', fun v H1 a w => ?_⟩
      split at h2
      · rename_i il
        cases h2
        exact fin _ H1 (a.put hio h1) (w.put a.al il)
      · cases h2
    · exact ⟨r, e, _, n, h1', fin σ⟩)
end
end Z

set_option Elab.async false
set_option linter.all false
set_option maxRecDepth 100000
set_option maxHeartbeats 4000000
/-! Z11: defs by their bodies. -/
namespace Z
open PySem PySem.Spec PyProof.Rows L2
def opts : List (Option D) → Option (List D)
  | [] => some []
  | some d :: r => (opts r).map (d :: ·)
  | none :: _ => none
theorem opts_some : ∀ {l : List (Option D)} {ds : List D}, opts l = some ds → l = ds.map some
  | [], _, h => by cases h; rfl
  | some d :: r, _, h => by
    obtain ⟨ds', h1, rfl⟩ := Option.map_eq_some_iff.mp (show (opts r).map (d :: ·) = some _ from h)
    rw [opts_some h1]; rfl
  | none :: _, _, h => by cases h
/-- a def's body as a function of its arguments; N names, np of them parameters, the first nio of them may be changed -/
def run (N np nio : Nat) (m : MS) (ds : List D) : Option FR :=
  if ds.length = np then (match m (ds.map some ++ List.replicate (N - np) none) with
    | some (.rt d r) => (opts (r.take nio)).map (FR.ok d)
    | some (.nx r) => (opts (r.take nio)).map (FR.ok .non)
    | some (.exc C ns es r) => (opts (r.take nio)).map (FR.exc C ns es)
    | _ => none)
  else none
variable {P : Program} {w : World} {G : Cfg} {mg : Str → Option Value} {base : Heap}
theorem Own.none_ {H : Hp} {F : Addr → Prop} (n : Nat) : Own G H F (List.replicate n (V.non, D.non)) [] := Own.pure_ fun p hp => by
  rw [(List.mem_replicate.mp hp).2]
  simp [Tr]
theorem env_start : ∀ {vs : List V} {ds : List D} {n : Nat}, vs.length = ds.length → envI (vs.map some ++ List.replicate n none) (ds.map some ++ List.replicate n none) = vs.zip ds ++ List.replicate n (V.non, D.non)
  | [], [], n, _ => by
    simp only [List.map_nil, List.nil_append, List.zip_nil_right, envI]
    induction n with
    | zero => rfl
    | succ n ih => simp [List.replicate_succ, item, ih]
  | v :: vs, d :: ds, n, h => by
    have ih := env_start (vs := vs) (ds := ds) (n := n) (by simpa using h)
    simp only [envI, List.map_cons, List.cons_append, List.zipWith_cons_cons, List.zip_cons_cons] at ih ⊢
    rw [ih]; rfl
  | [], _ :: _, _, h => by simp at h
  | _ :: _, [], _, h => by simp at h
theorem zw_some : ∀ {vs : List V} {ds : List D}, List.zipWith item (vs.map some) (ds.map some) = vs.zip ds
  | [], _ => by simp
  | _ :: _, [] => by simp
  | v :: vs, d :: ds => by simp [item, zw_some]
theorem env_take {σ : L2.St} {r : Rho} {vio : List V} {io : List D} (h1 : σ.take vio.length = vio.map some) (h2 : r.take vio.length = io.map some) (h3 : vio.length = io.length) : ∃ g, envI σ r = vio.zip io ++ g := by
  refine ⟨envI (σ.drop vio.length) (r.drop vio.length), ?_⟩
  have e1 : σ = vio.map some ++ σ.drop vio.length := by rw [← h1, List.take_append_drop]
  have e2 : r = io.map some ++ r.drop vio.length := by rw [← h2, List.take_append_drop]
  unfold envI
  conv => lhs; rw [e1, e2]
  rw [List.zipWith_append (by simp [h3]), zw_some]
theorem spZ_len {N np nio : Nat} {m : MS} {vs : List V} {H : Hp} {Q : VK} {E : XK} (h : spZ G nio (run N np nio m) vs H Q E) : vs.length = np := by
  obtain ⟨_, _, ds, y, hl, _, _, _, _, _, hphi, _⟩ := h
  unfold run at hphi
  split at hphi
  · rename_i e; rw [hl, e]
  · cases hphi
/-- a body's promise out of its term -/
theorem bodyZ {X : Cx} {body : List Stmt} {Ns ps : List Str} {m : MS} (nio : Nat) (hn : nio ≤ ps.length) (hpl : ps.length ≤ Ns.length) {vs : List V} {H : Hp} {Q : VK} {E : XK} (h : spZ G nio (run Ns.length ps.length nio m) vs H Q E)
    (hb : ∀ (B : Bs) (ios : List (Nat × V)), (∀ p ∈ ios, p.1 < nio) → PSs X body (tS ⟨G, B, ios, fun _ => E⟩ m)) : ∃ t, PSs X body t ∧ t { nx := fun _ H' => Q .non H', rt := Q } (L2.start Ns vs) H := by
  obtain ⟨Fz, O, ds, y, hl, nd, dj, fdz, own, tb, hphi, fin⟩ := h
  unfold run at hphi
  split at hphi
  · rename_i hlen
    have hvn : nio ≤ vs.length := by omega
    have hvt : (vs.take nio).length = nio := by rw [List.length_take]; omega
    refine ⟨_, hb ⟨H, O, Fz⟩ ((List.range nio).zip (vs.take nio)) (fun p hp => List.mem_range.mp (List.of_mem_zip hp).1), ?_⟩
    have hrep : Ns.length - vs.length = Ns.length - ps.length := by rw [hl, hlen]
    have al : Alx ⟨G, ⟨H, O, Fz⟩, (List.range nio).zip (vs.take nio), fun _ => E⟩ (L2.start Ns vs) (ds.map some ++ List.replicate (Ns.length - ps.length) none) := by
      refine ⟨⟨by simp [L2.start, hl, hlen], fun i d hi => ?_⟩, fun p hp => ?_⟩
      · have il : i < ds.length := by
          rcases Nat.lt_or_ge i ds.length with q | q
          · exact q
          · rw [List.getElem?_append_right (by simpa using q), List.getElem?_replicate] at hi
            split at hi <;> simp at hi
        refine ⟨vs[i], ?_⟩
        unfold L2.start
        rw [List.getElem?_append_left (by simpa [hl] using il), List.getElem?_map, List.getElem?_eq_getElem (by rw [hl]; exact il)]
        rfl
      · obtain ⟨i, hi⟩ := List.mem_iff_getElem?.mp hp
        rw [List.getElem?_zip_eq_some] at hi
        obtain ⟨i1, i2⟩ := hi
        obtain ⟨q1, q2⟩ := List.getElem?_eq_some_iff.mp i1
        rw [List.getElem_range] at q2
        have q3 : i < nio := by simpa using q1
        rw [List.getElem?_take_of_lt q3] at i2
        unfold L2.start
        rw [← q2, List.getElem?_append_left (by simp; omega), List.getElem?_map, i2]
        rfl
    have w0 : W G ⟨H, O, Fz⟩ H (envI (L2.start Ns vs) (ds.map some ++ List.replicate (Ns.length - ps.length) none)) := by
      refine ⟨Fz, O, ⟨nd, dj, fdz, fun a ha => .inr ha, fun a hf => .inl hf, fun _ _ e _ _ => e, fun _ ps e _ => ⟨ps, e⟩, tb⟩, ?_⟩
      unfold L2.start
      rw [hrep, env_start hl]
      exact Own.app.mpr ⟨O, [], own, Own.none_ _, (List.append_nil _).symm⟩
    have io_of : ∀ {σ' : L2.St} {r' : Rho} {io : List D} {g : List It} {H' : Hp}, Alx ⟨G, ⟨H, O, Fz⟩, (List.range nio).zip (vs.take nio), fun _ => E⟩ σ' r' → opts (r'.take nio) = some io → W G ⟨H, O, Fz⟩ H' (g ++ envI σ' r') → (vs.take nio).length = io.length ∧ W G ⟨H, O, Fz⟩ H' (g ++ (vs.take nio).zip io) := fun {σ' r' io g H'} a ho w => by
      have e1 : σ'.take nio = (vs.take nio).map some := by
        refine List.ext_getElem? fun i => ?_
        by_cases hi : i < nio
        · rw [List.getElem?_take_of_lt hi, List.getElem?_map]
          have hiv : i < (vs.take nio).length := by omega
          have := a.io (i, (vs.take nio)[i]) (List.mem_of_getElem? (i := i) (by
            rw [List.getElem?_zip_eq_some]
            exact ⟨by rw [List.getElem?_eq_getElem (by simpa using hi), List.getElem_range], List.getElem?_eq_getElem hiv⟩))
          rw [this, List.getElem?_eq_getElem hiv]
          rfl
        · rw [List.getElem?_take_eq_none (by omega), List.getElem?_eq_none (by simp; omega)]
      have e2 := opts_some ho
      have e3 : (vs.take nio).length = io.length := by
        have h1 := congrArg List.length e1
        have h2 := congrArg List.length e2
        have h3 := a.al.len
        simp only [List.length_take, List.length_map] at h1 h2 ⊢
        omega
      refine ⟨e3, ?_⟩
      obtain ⟨g', eg⟩ := env_take (σ := σ') (r := r') (vio := vs.take nio) (io := io) (by rw [hvt]; exact e1) (by rw [hvt]; exact e2) e3
      rw [eg, ← List.append_assoc] at w
      exact W.drops (w.perm List.perm_append_comm)
    split at hphi
    · rename_i d r hm
      obtain ⟨io, ho, rfl⟩ := Option.map_eq_some_iff.mp hphi
      refine ⟨_, [], _, ⟨al, Vok.nil, w0⟩, hm, fun v σ' H' a w => ?_⟩
      obtain ⟨q1, q2⟩ := io_of (g := [(v, d)]) a ho w
      exact fin q1 v H' q2
    · rename_i r hm
      obtain ⟨io, ho, rfl⟩ := Option.map_eq_some_iff.mp hphi
      refine ⟨_, [], _, ⟨al, Vok.nil, w0⟩, hm, fun σ' H' a w => ?_⟩
      obtain ⟨q1, q2⟩ := io_of (g := [(V.non, D.non)]) a ho (w.add (Cp.triv fun F => by simp [Tr]))
      exact fin q1 .non H' q2
    · rename_i C ns es r hm
      obtain ⟨io, ho, rfl⟩ := Option.map_eq_some_iff.mp hphi
      refine ⟨_, [], _, ⟨al, Vok.nil, w0⟩, hm, fun σ' vs' dx H' a hl' w hd => ?_⟩
      obtain ⟨q1, q2⟩ := io_of (g := vs'.zip es) a ho w
      exact fin q1 vs' dx H' hl' q2 hd
    · cases hphi
  · cases hphi
/-- what a body knows of its way out -/
structure TkP (X : Cx) (E : XK) : Prop where
  tk : Takes X (fun cls d _ H => E cls d H)
  hp : PassesOwn (model X.prog X.w) X.A X.env X.xe
theorem fnZ {x qual : Str} {st : Stmt} {f : Addr} {fd : FuncData} {Ns ps : List Str} {k : Nat} {m : MS} (nio : Nat) (F : Fun G.K x qual st f fd) (S : FnScope Ns ps (defScope st)) (hn : nio ≤ ps.length)
    (hb : ∀ (B : Bs) (ios : List (Nat × V)) (cdv : Value) (A : Around) (outer : List Env) (s : Shared) (H : Hp) (E : XK), (∀ p ∈ ios, p.1 < nio) → Room k (A.deeper (envOfC qual (defScope st) s.heap.objs.size f cdv)) →
      TkP (cxOf (L2.CX P w) P w G.K mg base Ns qual (defScope st) f cdv A outer s H E) E → PSs (cxOf (L2.CX P w) P w G.K mg base Ns qual (defScope st) f cdv A outer s H E) (defBody st) (tS ⟨G, B, ios, fun _ => E⟩ m)) :
    FnOk P w G.K mg base (L2.CX P w) (k + 1) f fd ps (spZ G nio (run Ns.length ps.length nio m)) := by
  have hpl : ps.length ≤ Ns.length := by have := congrArg List.length S.pre; rw [List.length_take] at this; omega
  refine F.okX S (fun vs H Q E h => spZ_len h) fun cdv A outer s H vs Q E hr h => bodyZ nio hn hpl h fun B ios hio => hb B ios cdv A outer s H E hio hr ⟨takes_of rfl rfl rfl rfl, passes_of rfl⟩

/-! ### a law's defs -/
/-- a def of the module -/
structure DefZ (K : PySem.W.Frag) (mg : Str → Option Value) (x : Str) (st : Stmt) (ps : List Str) : Prop where
  hps : ps = (defArgs st).args.map (·.arg)
  ex : ∃ (f : Addr) (fd : FuncData), Fun K x x st f fd ∧ mg x = some (.ref f) ∧ Binds K fd ps []
/-- a def that can be called -/
structure CalZ (P : Program) (w : World) (G : Cfg) (mg : Str → Option Value) (base : Heap) (k : Nat) (x : Str) (nio : Nat) (φ : List D → Option FR) : Prop where
  ex : ∃ (f : Addr) (fd : FuncData) (ps : List Str), FnOk P w G.K mg base (L2.CX P w) k f fd ps (spZ G nio φ) ∧ Binds G.K fd ps [] ∧ mg x = some (.ref f) ∧ PySem.W.keepIn G.K (.ref f) = true ∧ ∃ st, Fun G.K x x st f fd ∧ ps = (defArgs st).args.map (·.arg)
theorem CalZ.mono {k j : Nat} {x : Str} {nio : Nat} {φ : List D → Option FR} (h : CalZ P w G mg base k x nio φ) (hk : k ≤ j) : CalZ P w G mg base j x nio φ := by
  obtain ⟨f, fd, ps, h1, h2⟩ := h.ex
  exact ⟨f, fd, ps, h1.mono hk, h2⟩
theorem calZ {x : Str} {st : Stmt} {Ns ps : List Str} {k : Nat} {m : MS} (nio : Nat) (Df : DefZ G.K mg x st ps) (S : FnScope Ns ps (defScope st)) (hn : nio ≤ ps.length)
    (hb : ∀ (B : Bs) (ios : List (Nat × V)) (f : Addr) (cdv : Value) (A : Around) (outer : List Env) (s : Shared) (H : Hp) (E : XK), (∀ p ∈ ios, p.1 < nio) → Room k (A.deeper (envOfC x (defScope st) s.heap.objs.size f cdv)) →
      TkP (cxOf (L2.CX P w) P w G.K mg base Ns x (defScope st) f cdv A outer s H E) E → PSs (cxOf (L2.CX P w) P w G.K mg base Ns x (defScope st) f cdv A outer s H E) (defBody st) (tS ⟨G, B, ios, fun _ => E⟩ m)) :
    CalZ P w G mg base (k + 1) x nio (run Ns.length ps.length nio m) := by
  obtain ⟨f, fd, F, hm, b⟩ := Df.ex
  exact ⟨f, fd, ps, fnZ nio F S hn (fun B ios => hb B ios f), b, hm, F.kp, st, F, Df.hps⟩
theorem calM {x : Str} {st : Stmt} {Ns ps : List Str} {k nio : Nat} {m : MS} {φ : List D → Option FR} (Df : DefZ G.K mg x st ps) (S : FnScope Ns ps (defScope st)) (hn : nio ≤ ps.length)
    (hb : ∀ (B : Bs) (ios : List (Nat × V)) (f : Addr) (cdv : Value) (A : Around) (outer : List Env) (s : Shared) (H : Hp) (E : XK), (∀ p ∈ ios, p.1 < nio) → Room k (A.deeper (envOfC x (defScope st) s.heap.objs.size f cdv)) →
      TkP (cxOf (L2.CX P w) P w G.K mg base Ns x (defScope st) f cdv A outer s H E) E → PSs (cxOf (L2.CX P w) P w G.K mg base Ns x (defScope st) f cdv A outer s H E) (defBody st) (tS ⟨G, B, ios, fun _ => E⟩ m)) (hphi : φ = run Ns.length ps.length nio m) :
    CalZ P w G mg base (k + 1) x nio φ := hphi ▸ calZ nio Df S hn hb
theorem calZ0 {x : Str} {st : Stmt} {ps : List Str} {nio : Nat} (Df : DefZ G.K mg x st ps) : CalZ P w G mg base 0 x nio (fun _ => none) := by
  obtain ⟨f, fd, F, hm, b⟩ := Df.ex
  have no : ∀ (vs : List V) (H : Hp) (Q : VK) (E : XK), ¬ spZ G nio (fun _ => none) vs H Q E := fun vs H Q E h => by
    obtain ⟨_, _, _, _, _, _, _, _, _, _, h, _⟩ := h
    cases h
  exact ⟨f, fd, ps, ⟨fun vs H Q E h => absurd h (no vs H Q E), fun A outer s H args us vs Q E _ _ _ _ h => absurd h (no vs H Q E)⟩, b, hm, F.kp, st, F, Df.hps⟩
section
variable {c : Ctx} {X : Cx} {x : Str} {p pos : Pos} {ex : Expr} {es : List Expr} {ms : M (List Opd)} {φ : List D → Option FR} {k kk : Nat}
theorem z_c0 (C : CalZ X.prog X.w c.G X.mg X.base k x 0 φ) (hG : c.G.K = X.K) (hr : Room kk X.A) (ha : PA X (ex :: es) (tma c ms)) (hkk : k ≤ kk := by decide) (hg : Gl X x := by rfl)
    (hdb : (x == ("__debug__" : Str)) = false := by decide) (he : starEach (ex :: es) X.env = (false, eval ex X.env) :: starEach es X.env := by rfl) (hpl : (backTo pos (starEach es X.env)).any (·.1) = false := by rfl) :
    PE X (.Call (.Name x p) (ex :: es) [] pos) (tm c (call0 φ ms)) := by
  obtain ⟨f, fd, ps, h1, h2, h3, h4, _⟩ := C.ex
  rw [hG] at h1 h2 h4
  exact z_call0 h1 hr hkk h2 h3 h4 ha hg hdb he hpl
theorem z_cx (tk : Takes X (fun cls d σ H => c.E σ cls d H)) (C : CalZ X.prog X.w c.G X.mg X.base k x 0 φ) (hG : c.G.K = X.K) (hr : Room kk X.A) (ha : PA X (ex :: es) (tma c ms)) (hkk : k ≤ kk := by decide) (hg : Gl X x := by rfl)
    (hdb : (x == ("__debug__" : Str)) = false := by decide) (he : starEach (ex :: es) X.env = (false, eval ex X.env) :: starEach es X.env := by rfl) (hpl : (backTo pos (starEach es X.env)).any (·.1) = false := by rfl) :
    PE X (.Call (.Name x p) (ex :: es) [] pos) (tm c (cax0 φ ms)) := by
  obtain ⟨f, fd, ps, h1, h2, h3, h4, _⟩ := C.ex
  rw [hG] at h1 h2 h4
  exact z_cax0 tk h1 hr hkk h2 h3 h4 ha hg hdb he hpl
theorem z_c1 (C : CalZ X.prog X.w c.G X.mg X.base k x 1 φ) (hG : c.G.K = X.K) (hr : Room kk X.A) (ha : PA X (ex :: es) (tma c ms)) (hkk : k ≤ kk := by decide) (hg : Gl X x := by rfl)
    (hdb : (x == ("__debug__" : Str)) = false := by decide) (he : starEach (ex :: es) X.env = (false, eval ex X.env) :: starEach es X.env := by rfl) (hpl : (backTo pos (starEach es X.env)).any (·.1) = false := by rfl) :
    PE X (.Call (.Name x p) (ex :: es) [] pos) (tm c (call1 φ ms)) := by
  obtain ⟨f, fd, ps, h1, h2, h3, h4, _⟩ := C.ex
  rw [hG] at h1 h2 h4
  exact z_call1 h1 hr hkk h2 h3 h4 ha hg hdb he hpl
end
/-- the builtins that the module leaves as they are -/
def bNames : List Str := ["abs", "all", "any", "divmod", "enumerate", "int", "isinstance", "len", "list", "max", "min", "range", "sorted", "tuple", "zip", "str", "bool", "repr", "sum", "set", "dict"]
structure BN (mg : Str → Option Value) : Prop where
  abs : mg "abs" = none
  all : mg "all" = none
  any : mg "any" = none
  divmod : mg "divmod" = none
  enumerate : mg "enumerate" = none
  int : mg "int" = none
  isinstance : mg "isinstance" = none
  len : mg "len" = none
  list : mg "list" = none
  max : mg "max" = none
  min : mg "min" = none
  range : mg "range" = none
  sorted : mg "sorted" = none
  tuple : mg "tuple" = none
  zip : mg "zip" = none
  str : mg "str" = none
  bool : mg "bool" = none
  repr : mg "repr" = none
  sum : mg "sum" = none
  set : mg "set" = none
  dict : mg "dict" = none
end Z

set_option Elab.async false
set_option linter.all false
set_option maxRecDepth 100000
set_option maxHeartbeats 4000000
/-! Z12: a[::k] for k of 1, -1. -/
namespace HZ
open PySem PySem.Spec PyProof.Rows L2 HT
section
variable {prog : Program} {w : World} {A : Around} {E : Value → Shared → Prop} {s : Shared}
theorem pick_one (items : Array Value) : slicePick items none none (some 1) = items := by
  have e1 : sliceBounds none none (some 1) items.size = (0, (items.size : Int), 1) := rfl
  have e2 : sliceRange 0 (items.size : Int) 1 = List.range items.size := by
    unfold sliceRange
    rw [if_pos (by decide)]
    by_cases h : (0 : Int) < (items.size : Int)
    · rw [if_pos h]
      have : (((items.size : Int) - 0 + 1 - 1) / 1).toNat = items.size := by rw [Int.ediv_one]; omega
      show (List.range (((items.size : Int) - 0 + 1 - 1) / 1).toNat).map (fun k : Nat => ((0 : Int) + 1 * (k : Int)).toNat) = _
      rw [this]
      refine (List.map_congr_left (g := id) fun k _ => ?_).trans (List.map_id _)
      show ((0 : Int) + 1 * (k : Int)).toNat = k
      omega
    · have : items.size = 0 := by omega
      rw [if_neg h, this]; rfl
  unfold slicePick
  rw [e1]
  show ((sliceRange 0 (items.size : Int) 1).filterMap (items[·]?)).toArray = items
  rw [e2, PySem.W.krv_all]
theorem applied_step {sl : Addr} {k : Int} {t : Tok} {n : Nat} {Q : Int × Int × Nat → Shared → Prop} (hs : s.heap.IsSliceOf sl .none .none (.int k t)) (hk : k = 1 ∨ k = -1)
    (h : Q (if k = 1 then 0 else (n : Int) - 1, k, n) s) : wpAny (model prog w) A (Builtin.Slice.sliceApplied (.ref sl) (pure (n : Int))) Q E s := by
  obtain ⟨os, hos, hcs, hds⟩ := id hs
  unfold Builtin.Slice.sliceApplied Builtin.Slice.sliceFields
  refine wpAny_bind (wpAny_bind (wpAny_field hos hds (x := .none) rfl (wpAny_bind (wpAny_field hos hds (x := .none) rfl (wpAny_bind (wpAny_field hos hds (x := .int k t) rfl (wpAny_pure ?_)))))))
  refine wpAny_bind (slicePart_int ?_)
  show wpAny _ _ (if (k == 0) = true then _ else _) _ _ s
  rw [if_neg (by rcases hk with rfl | rfl <;> decide)]
  refine wpAny_bind (slicePart_ .none (wpAny_bind (slicePart_ .none (wpAny_bind (wpAny_pure ?_)))))
  have e : (match Builtin.Slice.sliceAdjust none none k (n : Int) with | (lo, hi) => (pure (lo, k, Builtin.Slice.slicePlaces lo hi k) : Sem (Int × Int × Nat))) = pure (if k = 1 then 0 else (n : Int) - 1, k, n) := by
    rcases hk with rfl | rfl
    · show (pure ((0 : Int), (1 : Int), Builtin.Slice.slicePlaces 0 (n : Int) 1) : Sem (Int × Int × Nat)) = pure ((0 : Int), (1 : Int), n)
      have : Builtin.Slice.slicePlaces 0 (n : Int) 1 = n := by
        have := HT.places_gen 0 n
        simpa using this
      rw [this]
    · show (pure ((n : Int) - 1, (-1 : Int), Builtin.Slice.slicePlaces ((n : Int) - 1) (-1) (-1)) : Sem (Int × Int × Nat)) = pure ((n : Int) - 1, (-1 : Int), n)
      have : Builtin.Slice.slicePlaces ((n : Int) - 1) (-1) (-1) = n := by
        unfold Builtin.Slice.slicePlaces
        rw [if_neg (by decide)]
        by_cases q : (n : Int) - 1 > -1
        · rw [if_pos q]
          have : ((n : Int) - 1 - -1 - 1) / (- -1) + 1 = n := by
            rw [show (- -1 : Int) = 1 by decide, Int.ediv_one]; omega
          rw [this]; omega
        · rw [if_neg q]; omega
      rw [this]
  refine Eq.mpr (congrArg (fun m => wpAny (model prog w) A m Q E s) e) ?_
  exact wpAny_pure h
theorem fm_congr {α β : Type} {f g : α → Option β} : ∀ {l : List α}, (∀ a ∈ l, f a = g a) → l.filterMap f = l.filterMap g
  | [], _ => rfl
  | a :: l, h => by
    simp only [List.filterMap_cons, h a List.mem_cons_self, fm_congr fun x hx => h x (List.mem_cons_of_mem _ hx)]
theorem pick_back (xs : Array Value) : ((List.range xs.size).filterMap fun (m : Nat) => xs[(((xs.size : Int) - 1) + (m : Int) * -1).toNat]?) = xs.toList.reverse := by
  have e : ∀ m ∈ List.range xs.size, (fun (m : Nat) => xs[(((xs.size : Int) - 1) + (m : Int) * -1).toNat]?) m = (fun m => xs[xs.size - 1 - m]?) m := by
    intro m hm
    have h1 := List.mem_range.mp hm
    have : (((xs.size : Int) - 1) + (m : Int) * -1).toNat = xs.size - 1 - m := by omega
    simp only [this]
  rw [fm_congr e]
  have e2 : (fun m => xs[xs.size - 1 - m]?) = (fun k => xs[k]?) ∘ (fun m => xs.size - 1 - m) := rfl
  rw [e2, ← List.filterMap_map, PySem.W.krv_range, List.filterMap_reverse, PySem.W.krv_all]
theorem getItem_tuple_step {t sl : Addr} {items : Array Value} {k : Int} {tk : Tok} {Q : Value → Shared → Prop} (ht : IsTup s.heap t items) (hs : s.heap.IsSliceOf sl .none .none (.int k tk)) (hk : k = 1 ∨ k = -1)
    (h1 : k = 1 → Q (.ref t) s) (h2 : k = -1 → Q (.ref s.heap.objs.size) { s with heap := s.heap.push { cls := .type "tuple", data := .seq items.toList.reverse.toArray } })
    (hsz : items.size ≤ sizeLine) : wpAny (model prog w) A (getItem (.ref t) (.ref sl)) Q E s := by
  have htake : sizeOk (.seq items.toList.reverse.toArray) := by
    show items.toList.reverse.toArray.size ≤ sizeLine
    simpa using hsz
  obtain ⟨os, hos, hcs, hds⟩ := id hs
  have hTs : s.TypeIs (.ref sl) "slice" := ⟨os, hos, hcs⟩
  unfold getItem
  try with_reducible refine wpAny_holding ?_
  first | refine wpAny_bind (wpAny_pure ?_) | skip
  refine wpAny_bind (wpAny_sequenceKey ht.typeIs (by decide) ?_)
  refine wpAny_bind (wpAny_callSpecial?_slot (name := Str.ofString "__getitem__") ht.typeIs PyProof.Rows.slot_tuple_getitem
    (wpAny_call_entry PyProof.Rows.slot_tuple_getitem ht.typeIs entry_tuple_getitem ?_ (args_tuple_getitem _ _)))
  show wpAny _ _ (Builtin.Tuple.tupleItemsOf (.ref t) >>= _) _ _ s
  refine wpAny_bind (tupleItemsOf_ ht ?_)
  refine wpAny_bind (wpAny_typeOf hTs ?_)
  rw [if_pos (by decide)]
  refine wpAny_bind (applied_step hs hk ?_)
  rcases hk with rfl | rfl
  · show wpAny _ _ (if ((0 : Int) == 0 && (1 : Int) == 1 && items.size == items.size) = true then _ else _) _ _ s
    rw [if_pos (by simp)]
    refine wpAny_bind ?_
    show wpAny _ _ (typeOf (.ref t) >>= fun T => pure (T == .type "tuple")) _ _ s
    refine wpAny_bind (wpAny_typeOf ht.typeIs (wpAny_pure ?_))
    first
      | rw [if_pos (by decide)]
      | simp only [beq_self_eq_true, if_true]
    have h := h1 rfl
    first
      | exact wpAny_bind (wpAny_rule (wpAny_pure ⟨_, rfl, wpAny_pure h⟩))
      | exact wpAny_bind (wpAny_rule (wpAny_bind (wpAny_pure (wpAny_pure ⟨_, rfl, wpAny_pure h⟩))))
  · show wpAny _ _ (if (((items.size : Int) - 1 == 0) && (-1 : Int) == 1 && items.size == items.size) = true then _ else _) _ _ s
    rw [if_neg (by simp)]
    show wpAny _ _ (Builtin.Tuple.tupleExact ((List.range items.size).filterMap fun (m : Nat) => items[(((items.size : Int) - 1) + (m : Int) * -1).toNat]?).toArray >>= _) _ _ s
    rw [pick_back]
    have h := h2 rfl
    first
      | exact wpAny_bind (m := Builtin.Tuple.tupleExact _) (wpAny_newObj_type (wpAny_pure ⟨_, rfl, wpAny_pure h⟩) htake)
      | exact wpAny_bind (m := Builtin.Tuple.tupleExact _) (wpAny_newObj_type (wpAny_bind (wpAny_pure (wpAny_pure ⟨_, rfl, wpAny_pure h⟩))) htake)
      | exact wpAny_bind (wpAny_bind (m := Builtin.Tuple.tupleExact _) (wpAny_newObj_type (wpAny_pure (wpAny_pure ⟨_, rfl, wpAny_pure h⟩)) htake))
      | exact wpAny_bind (wpAny_bind (m := Builtin.Tuple.tupleExact _) (wpAny_newObj_type (wpAny_pure ⟨_, rfl, wpAny_pure h⟩) htake))
end
end HZ
namespace Z
open PySem PySem.Spec PyProof.Rows L2
variable {c : Ctx} {σ : L2.St} {H : Hp} {r : Rho} {e : List It} {X : Cx} {Q : VK}
/-- a[::k] -/
def rStep (K : PySem.W.Frag) : R2 := fun x y H Q => ∃ a xs k, x = .ref a ∧ y = .int k ∧ (k = 1 ∨ k = -1) ∧
  ((SqT K H a xs ∧ (k = 1 → Q (.ref a) H) ∧ (k = -1 → ∀ p, H p = none → Q (.ref p) (upd H p (.tup xs.reverse)))) ∨
   (SqL K H a xs ∧ ∀ p, H p = none → Q (.ref p) (upd H p (.lst (if k = 1 then xs else xs.reverse)))))
theorem pe_step {e st : Expr} {te ts : TE} {p2 pos : Pos} (he : PE X e te) (hst : PE X st ts) : PE X (.Subscript e (.Slice none none (some st) p2) pos) (tOp (rStep X.K) te ts) := by
  refine ⟨fun pins s σ H Q I h => ?_⟩
  refine Subscript_ (thn (he.run pins s σ H _ I h) fun v s1 ⟨x, H1, I1, r1, q1⟩ => ?_)
  refine wpAny_Slice (thn (po_none.run pins s1 σ H1 (fun o H2 => o = none ∧ H2 = H1) I1 ⟨rfl, rfl⟩) fun vl s2 ⟨l, H2, I2, pl, el, e2⟩ => ?_)
  subst el e2
  refine thn (po_none.run pins s2 σ H2 (fun o H3 => o = none ∧ H3 = H2) I2 ⟨rfl, rfl⟩) fun vu s3 ⟨u, H3, I3, pu, eu, e3⟩ => ?_
  subst eu e3
  rw [evalPart_some]
  refine thn (hst.run pins s3 σ H3 _ I3 q1) fun vs s4 ⟨y, H4, I4, r4, a, xs, k, ex, ey, hk, h4⟩ => ?_
  subst ex ey
  cases r1
  obtain ⟨tk, rfl⟩ := r4
  have I5 : Inv X pins σ H4 { s4 with heap := s4.heap.push { cls := .type "slice", data := .fields #[vl, vu, .int k tk] } } := I4.kept (t' := s4.toks) fun b ob q => Heap.get?_push_of_some _ q
  cases pl
  cases pu
  rcases h4 with ⟨hx, q2, q3⟩ | ⟨hx, q2⟩
  · obtain ⟨its, r, ht, hz⟩ := I5.tuple hx
    have hlen := r.length
    show wpAny (model X.prog X.w) X.A (subscriptTail e (.Slice none none (some st) p2) (.ref a) (.ref s4.heap.objs.size)) (EP X pins σ Q) X.xe { s4 with heap := s4.heap.push { cls := .type "slice", data := .fields #[.none, .none, .int k tk] } }
    refine tail_any (ops := [.ref a, .ref s4.heap.objs.size]) ht.typeIs (PyProof.Rows.slot_tuple_getitem.lookup) ?_ (by with_unfolding_all rfl)
    refine HZ.getItem_tuple_step ht (Heap.IsSliceOf.new _ .none .none (.int k tk)) hk (fun ek => ⟨.ref a, H4, I5, rfl, q2 ek⟩) (fun ek => ?_) (by rw [List.size_toArray]; omega)
    refine ⟨.ref _, _, I5.laid (t' := s4.toks) (o := .tup xs.reverse) (fun b ob q => Heap.get?_push_of_some _ q) (Nat.le_refl _) ?_, rfl, q3 ek _ (I5.hok.fresh (Nat.le_refl _))⟩
    exact ⟨by rw [List.length_reverse]; exact hz, _, r.reverse, IsTup.new _ _⟩
  · obtain ⟨its, r, ht, hz⟩ := I5.list hx
    have hlen := r.length
    show wpAny (model X.prog X.w) X.A (subscriptTail e (.Slice none none (some st) p2) (.ref a) (.ref s4.heap.objs.size)) (EP X pins σ Q) X.xe { s4 with heap := s4.heap.push { cls := .type "slice", data := .fields #[.none, .none, .int k tk] } }
    refine tail_any (ops := [.ref a, .ref s4.heap.objs.size]) ht.isList.typeIs (PySem.slot_list_getitem.lookup) ?_ (by with_unfolding_all rfl)
    refine wpAny_getItem_list_slice ht.isList (Heap.IsSliceOf.new _ .none .none (.int k tk)) .none .none (.int k tk) (by rcases hk with rfl | rfl <;> decide) ?_ (by rw [List.size_toArray]; omega)
    rcases hk with rfl | rfl
    · rw [HZ.pick_one]
      refine ⟨.ref _, _, I5.laid (t' := s4.toks) (o := .lst xs) (fun b ob q => Heap.get?_push_of_some _ q) (Nat.le_refl _) ?_, rfl, q2 _ (I5.hok.fresh (Nat.le_refl _))⟩
      exact ⟨hz, _, 0, r, Heap.get?_push_size _ rfl⟩
    · rw [PySem.W.krv_pick]
      refine ⟨.ref _, _, I5.laid (t' := s4.toks) (o := .lst xs.reverse) (fun b ob q => Heap.get?_push_of_some _ q) (Nat.le_refl _) ?_, rfl, q2 _ (I5.hok.fresh (Nat.le_refl _))⟩
      exact ⟨by rw [List.length_reverse]; exact hz, _, 0, r.reverse, Heap.get?_push_size _ rfl⟩
def stepS : List D → Option D
  | [.tup l, .int k] => if k = 1 then some (.tup l) else if k = -1 then some (.tup l.reverse) else none
  | [.lst _ l, .int k] => if k = 1 then some (.lst true l) else if k = -1 then some (.lst true l.reverse) else none
  | _ => none
theorem z_step {a st : Expr} {ma ms : M Opd} {p2 pos : Pos} (ha : PE X a (tmo c ma)) (hs : PE X st (tmo c ms)) : PE X (.Subscript a (.Slice none none (some st) p2) pos) (tm c (op2 true stepS ma ms)) :=
  pe_imp (pe_step ha hs) fun σ H Q h => tmo_mono (red2 h) fun x H1 h1 => tmo_mono h1 fun y H2 q => by
    obtain ⟨B, g, ds, d, w, hl, hm, hk, hf, q⟩ := q
    obtain ⟨d1, d2, rfl⟩ := len2 hl
    obtain ⟨m1, m2⟩ := mem2 hm
    have k1 : kn d1 = true := hk rfl _ (by simp)
    unfold stepS at hf
    split at hf
    · rename_i l k e
      cases e
      obtain ⟨l1, xs, e1, h1, c1⟩ := w.tup m1
      have e2 := w.int m2
      by_cases z1 : k = 1
      · rw [if_pos z1] at hf; cases hf
        refine ⟨l1, xs, k, e1, e2, .inl z1, .inl ⟨SqT.of h1, fun _ => ?_, fun z => by omega⟩⟩
        rw [← e1]
        exact q _ _ (w.add (Cp.of m1 k1))
      · rw [if_neg z1] at hf
        by_cases z2 : k = -1
        · rw [if_pos z2] at hf; cases hf
          exact ⟨l1, xs, k, e1, e2, .inr z2, .inl ⟨SqT.of h1, fun z => absurd z z1, fun _ p hp => q _ _ (newT w hp (c1.kc k1).reverse)⟩⟩
        · rw [if_neg z2] at hf; cases hf
    · rename_i o l k e
      cases e
      obtain ⟨l1, xs, e1, h1, c1⟩ := w.lst m1
      have e2 := w.int m2
      by_cases z1 : k = 1
      · rw [if_pos z1] at hf; cases hf
        refine ⟨l1, xs, k, e1, e2, .inl z1, .inr ⟨SqL.of h1, fun p hp => ?_⟩⟩
        rw [if_pos z1]
        exact q _ _ (newL w hp (c1.kc k1))
      · rw [if_neg z1] at hf
        by_cases z2 : k = -1
        · rw [if_pos z2] at hf; cases hf
          refine ⟨l1, xs, k, e1, e2, .inr z2, .inr ⟨SqL.of h1, fun p hp => ?_⟩⟩
          rw [if_neg z1]
          exact q _ _ (newL w hp (c1.kc k1).reverse)
        · rw [if_neg z2] at hf; cases hf
    · cases hf
end Z

set_option Elab.async false
set_option linter.all false
set_option maxRecDepth 100000
set_option maxHeartbeats 4000000
/-! Z13: calls whose arguments are all named. -/
namespace Z
open PySem PySem.Spec PyProof.Rows L2
variable {c : Ctx} {σ : L2.St} {H : Hp} {r : Rho} {e : List It} {X : Cx} {Q : VK}
/-- put in another order -/
def pm {α : Type} (ix : List Nat) (l : List α) : List α := ix.filterMap fun i => l[i]?
theorem pm_vals : ∀ {ix : List Nat} {vs : List V} {us : List Value}, Vals vs us → Vals (pm ix vs) (pm ix us)
  | [], _, _, _ => .nil
  | i :: ix, vs, us, h => by
    have ih := pm_vals (ix := ix) h
    unfold pm at ih ⊢
    rw [List.filterMap_cons, List.filterMap_cons]
    have hl := h.length
    cases q : vs[i]? with
    | none =>
      have : us[i]? = none := by
        rw [List.getElem?_eq_none_iff] at q ⊢
        omega
      rw [this]
      exact ih
    | some x =>
      obtain ⟨u, hu, ru⟩ := h.get q
      rw [hu]
      exact .cons ru ih
theorem pm_len {α β : Type} : ∀ {ix : List Nat} {a : List α} {b : List β}, a.length = b.length → (pm ix a).length = (pm ix b).length
  | [], _, _, _ => rfl
  | i :: ix, a, b, h => by
    have ih := pm_len (ix := ix) h
    unfold pm at ih ⊢
    rw [List.filterMap_cons, List.filterMap_cons]
    cases q : a[i]? with
    | none =>
      have : b[i]? = none := by
        rw [List.getElem?_eq_none_iff] at q ⊢
        omega
      rw [this]
      exact ih
    | some x =>
      have hi : i < b.length := by rw [← h]; exact (List.getElem?_eq_some_iff.mp q).1
      rw [List.getElem?_eq_getElem hi]
      simp [ih]
theorem pm_zip {α β : Type} : ∀ {ix : List Nat} {a : List α} {b : List β}, a.length = b.length → ∀ p ∈ (pm ix a).zip (pm ix b), p ∈ a.zip b
  | [], _, _, _, p, hp => by simp [pm] at hp
  | i :: ix, a, b, h, p, hp => by
    have ih := pm_zip (ix := ix) h
    unfold pm at ih hp
    rw [List.filterMap_cons, List.filterMap_cons] at hp
    cases q : a[i]? with
    | none =>
      have : b[i]? = none := by
        rw [List.getElem?_eq_none_iff] at q ⊢
        omega
      rw [q, this] at hp
      exact ih p hp
    | some x =>
      have hi : i < b.length := by rw [← h]; exact (List.getElem?_eq_some_iff.mp q).1
      rw [q, List.getElem?_eq_getElem hi] at hp
      rcases List.mem_cons.mp hp with hp | hp
      · subst hp
        refine List.mem_iff_getElem?.mpr ⟨i, ?_⟩
        rw [List.getElem?_zip_eq_some]
        exact ⟨q, List.getElem?_eq_getElem hi⟩
      · exact ih p hp
/-- the arguments' values, in the order in which they are written -/
theorem pk_nilM : PK X [] (tma c (ret [])) := ⟨fun pos pins s σ H Q I h => pk_nil.run pos pins s σ H Q I (by
  obtain ⟨r, e, y, n, hx, fin⟩ := h
  cases hx
  exact fin [] H rfl n.al Vok.nil n.w)⟩
theorem pk_consM {ex : Expr} {kws : List Keyword} {nm : Option Str} {kpos : Pos} {m : M Opd} {ms : M (List Opd)} (h : PE X ex (tmo c m)) (hs : PK X kws (tma c ms)) : PK X (⟨nm, ex, kpos⟩ :: kws) (tma c (consM m ms)) :=
  ⟨fun pos pins s σ H Q I hq => (pk_cons h hs).run pos pins s σ H Q I (by
    obtain ⟨r, e, x, n, hx, fin⟩ := tkA_bnd hq
    refine ⟨r, e, x, n, hx, ?_⟩
    cases x with
    | exc C ns ds r1 => exact fin
    | ok o r1 =>
      intro v H1 a vk w
      obtain ⟨o', r2, e2, x2, n2, hx2, fin2⟩ := fin v H1 a vk w
      unfold bnd at hx2
      cases q : ms r2 with
      | none => rw [q] at hx2; cases hx2
      | some y =>
        rw [q] at hx2
        have w2 : W c.G c.B H1 (tmps [] ++ ((tmps [(v, o')] ++ e2) ++ envI σ r2)) := by simpa [tmps, List.append_assoc] using n2.w
        cases y with
        | exc C ns ds r3 =>
          cases hx2
          exact ⟨r2, tmps [(v, o')] ++ e2, .exc C ns ds r3, ⟨n2.al, Vok.nil, w2⟩, q, PostX.dropMid fin2⟩
        | ok os r3 =>
          cases hx2
          refine ⟨r2, tmps [(v, o')] ++ e2, .ok os r3, ⟨n2.al, Vok.nil, w2⟩, q, ?_⟩
          intro vs H3 hl a3 vk3 w3
          refine fin2 (v :: vs) H3 (by simp [hl]) a3 (Vok.app (a := [(v, o')]) n2.vok vk3) ?_
          rw [show tmps ((v :: vs).zip (o' :: os)) = tmps [(v, o')] ++ tmps (vs.zip os) from tmps_app [(v, o')] (vs.zip os)]
          refine W.perm w3 ?_
          rw [List.append_assoc, List.append_assoc]
          exact perm_ab _ _ _)⟩
def gK {α : Type} (ix : List Nat) : List α → List α → List α
  | [], ws => pm ix ws
  | _ :: _, _ => []
def callK (ix : List Nat) (φ : List D → Option FR) (ms : M (List Opd)) : M D := bnd ms fun os r => match opdDs r os with
  | some ds => (match φ ((pm ix ds).map freeze) with
    | some (.ok d []) => if (allOwn d || frzOk r os) = true then some (.ok d r) else none
    | _ => none)
  | none => none
/-- .. that may raise -/
def caxK (ix : List Nat) (φ : List D → Option FR) (ms : M (List Opd)) : M D := bnd ms fun os r => match opdDs r os with
  | some ds => (match φ ((pm ix ds).map freeze) with
    | some (.ok d []) => if (allOwn d || frzOk r os) = true then some (.ok d r) else none
    | some (.exc C ns es []) => if (allOwns es || frzOk r os) = true then some (.exc C ns es r) else none
    | _ => none)
  | none => none
section
variable {x : Str} {p pos : Pos} {kws : List Keyword} {ms : M (List Opd)} {φ : List D → Option FR} {k kk : Nat} {f : Addr} {fd : FuncData} {ps ks : List Str} {ix : List Nat}
theorem pe_callKW {CX : CXT} {sp : Sp} {E : XK} {tk : TA} {g : List Value → List Value → List Value} {gV : List V → List V → List V} (F : FnOk X.prog X.w X.K X.mg X.base CX k f fd ps sp) (hr : Room k X.A) (hg : Gl X x) (hm : X.mg x = some (.ref f)) (hk : PySem.W.keepIn X.K (.ref f) = true)
    (hb : KBinds X.K fd ps ks g gV) (hx : Passes CX X E) (hkw : PK X kws tk) (hall : (backToKw pos (keywordEach kws X.env)).all (·.1.isSome) = true) (hks : (backToKw pos (keywordEach kws X.env)).filterMap (·.1) = ks)
    (hpl : ((backTo pos (starEach [] X.env)).any (·.1) || (backToKw pos (keywordEach kws X.env)).any (·.1.isNone)) = false) (hdb : (x == ("__debug__" : Str)) = false) :
    PE X (.Call (.Name x p) [] kws pos) (fun σ H Q => tk σ H fun zs H2 => sp (gV [] zs) H2 Q E) := ⟨fun pins s σ H Q I h =>
  wpAny_Call_Name_kw (ld_glob I hg hm (PySem.W.callWith_KW0 (h₀ := X.base) I.ok.mod.kin hk hall (thn (hkw.run pos pins s σ H _ I h) fun ws s2 ⟨zs, H2, I2, rz, q2⟩ => ⟨I2.kIn, by
    rw [hks]
    exact run_fnk F hr hb hx I2 .nil rz q2⟩) hpl) hdb)⟩
theorem z_callK (Fn : FnOk X.prog X.w X.K X.mg X.base (L2.CX X.prog X.w) k f fd ps (spZ c.G 0 φ)) (hr : Room kk X.A) (hkk : k ≤ kk) (hb : KBinds X.K fd ps ks (gK ix) (gK ix)) (hm : X.mg x = some (.ref f)) (hk : PySem.W.keepIn X.K (.ref f) = true) (ha : PK X kws (tma c ms)) (hg : Gl X x)
    (hall : (backToKw pos (keywordEach kws X.env)).all (·.1.isSome) = true) (hks : (backToKw pos (keywordEach kws X.env)).filterMap (·.1) = ks)
    (hpl : ((backTo pos (starEach [] X.env)).any (·.1) || (backToKw pos (keywordEach kws X.env)).any (·.1.isNone)) = false) (hdb : (x == ("__debug__" : Str)) = false) :
    PE X (.Call (.Name x p) [] kws pos) (tm c (callK ix φ ms)) := by
  refine pe_imp (pe_callKW (E := EFalse) Fn (hr.mono hkk) hg hm hk hb passesF ha hall hks hpl hdb) fun σ H Q h => ?_
  refine tma_mono (tk_bndA h) fun vs H1 ⟨os, hl, r, e, x, n, hx, fin⟩ => ?_
  dsimp only at hx
  split at hx
  · rename_i ds hd
    have w : W c.G c.B H1 ([] ++ (tmps (vs.zip os) ++ (e ++ envI σ r))) := by
      have := n.w
      rw [List.append_nil] at this
      exact this
    have hlen : vs.length = ds.length := by rw [hl, opdDs_len hd]
    have inn : ∀ p ∈ vs.zip ds, p ∈ tmps (vs.zip os) ∨ p ∈ e ++ envI σ r := opd_in hl (fun y i m d hd => List.mem_append_right _ (List.mem_of_getElem? (envI_get (n.vok y i (by rw [List.append_nil]; exact m)) hd))) hd
    have hlen' := pm_len (ix := ix) hlen
    have inn' : ∀ p ∈ (pm ix vs).zip (pm ix ds), p ∈ tmps (vs.zip os) ∨ p ∈ e ++ envI σ r := fun p hp => inn p (pm_zip hlen p hp)
    split at hx
    · rename_i d hphi
      split at hx
      · rename_i hc
        cases hx
        have hb : allOwn d = false → ∀ p ∈ (pm ix vs).zip (pm ix ds), p ∈ tmps (vs.zip os) ∨ noOwn p.2 = true := fun hf p hp => frz_mem hl hd (by rw [hf] at hc; simpa using hc) p (pm_zip hlen p hp)
        obtain ⟨F', O', c1, c2, c3, c4, c4t, c5⟩ := callW (b := allOwn d) w hlen' inn' hb
        refine ⟨F', O', (pm ix ds).map freeze, _, by simp [gK, hlen'], c1, c2, c3, c4, c4t, hphi, fun _ v H' w2 => ?_⟩
        exact fin v H' n.al (c5 _ _ w2 fun hb p hp => by simp at hp; rw [hp]; exact hb)
      · cases hx
    · cases hx
  · cases hx
/-- a def of the module, its arguments all named -/
theorem z_ck {st : Stmt} {ks : List Str} (ix : List Nat) (C : CalZ X.prog X.w c.G X.mg X.base k x 0 φ) (Df : DefZ c.G.K X.mg x st ps) (hG : c.G.K = X.K) (hr : Room kk X.A) (ha : PK X kws (tma c ms)) (hkk : k ≤ kk) (hp0 : 0 < ps.length)
    (hb : ∀ (kV doc pm_ : Value) (an : Option Addr) (cdv ct : Value) (ws : List Value), (pm ix ws).length = ps.length → bindArgs (PySem.W.fnOf x x (defArgs st) (defBody st) (defScope st) .none kV doc pm_ an cdv ct) ⟨[], ks.zip ws⟩ = pure (ps.zip (pm ix ws)))
    (hg : Gl X x := by rfl)
    (hall : (backToKw pos (keywordEach kws X.env)).all (·.1.isSome) = true := by rfl) (hks : (backToKw pos (keywordEach kws X.env)).filterMap (·.1) = ks := by rfl)
    (hpl : ((backTo pos (starEach [] X.env)).any (·.1) || (backToKw pos (keywordEach kws X.env)).any (·.1.isNone)) = false := by rfl) (hdb : (x == ("__debug__" : Str)) = false := by decide) :
    PE X (.Call (.Name x p) [] kws pos) (tm c (callK ix φ ms)) := by
  obtain ⟨f, fd, ps', h1, h2, h3, h4, st', F', e'⟩ := C.ex
  obtain ⟨f0, fd0, F0, m0, b0⟩ := Df.ex
  have ef : f0 = f := by rw [h3] at m0; cases m0; rfl
  subst ef
  have efd : fd0 = fd := by
    obtain ⟨_, _, _, _, _, _, _, _, _, _, l1, _⟩ := F0.ex
    obtain ⟨_, _, _, _, _, _, _, _, _, _, l2, _⟩ := F'.ex
    rw [l1] at l2
    cases l2
    rfl
  subst efd
  have eps : ps' = ps := by
    obtain ⟨_, _, _, _, _, _, _, _, _, q1, _⟩ := F0.ex
    obtain ⟨_, _, _, _, _, _, _, _, _, q2, _⟩ := F'.ex
    have : (defArgs st) = defArgs st' := congrArg (·.params) (q1.symm.trans q2)
    rw [e', Df.hps, this]
  subst eps
  rw [hG] at h1 h4
  have kb : KBinds X.K fd0 ps' ks (gK ix) (gK ix) := ⟨fun s us ws hk hl => by
    cases us with
    | nil =>
      obtain ⟨oc, od, kV, doc, pm_, an, cdv, ct, osl, q, _⟩ := F0.ex
      subst q
      exact .of_eq (hb kV doc pm_ an cdv ct ws hl)
    | cons u us => exact absurd hl (by show ¬ 0 = _; omega), fun {vs us zs ws} rv rz => by
    cases rv with
    | nil => exact pm_vals rz
    | cons _ _ => exact .nil⟩
  exact z_callK h1 hr hkk kb h3 h4 ha hg hall hks hpl hdb
end
end Z

set_option Elab.async false
set_option linter.all false
set_option maxRecDepth 100000
set_option maxHeartbeats 4000000
/-! Z14: defs that ask for a repr: what they promise while none is under way. -/
namespace Z
open PySem PySem.Spec PyProof.Rows L2
/-- FnOk's promise, said only of an Around in which no guard stands -/
structure FnG (P : Program) (w : World) (K : PySem.W.Frag) (mg : Str → Option Value) (base : Heap) (k : Nat) (f : Addr) (fd : FuncData) (ps : List Str) (sp : Sp) : Prop where
  len : ∀ vs H Q E, sp vs H Q E → vs.length = ps.length
  go : ∀ {A : Around} {outer : List Env} {s : Shared} {H : Hp} {args : Args} {us : List Value} {vs : List V} {Q : VK} {E : XK}, A.guards = some [] → Room k A → Env0 P w K mg base A outer s H →
    BindsTo s fd args (ps.zip us) → Vals vs us → sp vs H Q E → codeAny (model P w) A (.call (.ref f) args) (CR (L2.CX P w) outer P w H s Q E) s
section
variable {P : Program} {w : World} {K : PySem.W.Frag} {mg : Str → Option Value} {base : Heap} {k j : Nat} {f : Addr} {fd : FuncData} {ps : List Str} {sp sp' : Sp}
theorem FnG.of (F : FnOk P w K mg base (L2.CX P w) k f fd ps sp) : FnG P w K mg base k f fd ps sp :=
  { len := F.len, go := fun {A outer s H args us vs Q E} _ hr e0 hb hv h => F.run A outer s H args us vs Q E hr e0 hb hv h }
theorem FnG.mono (F : FnG P w K mg base j f fd ps sp) (h : j ≤ k) : FnG P w K mg base k f fd ps sp :=
  { len := F.len, go := fun g hr => F.go g (hr.mono h) }
theorem FnG.imp (F : FnG P w K mg base k f fd ps sp) (h : ∀ vs H Q E, sp' vs H Q E → sp vs H Q E) : FnG P w K mg base k f fd ps sp' :=
  { len := fun vs H Q E q => F.len vs H Q E (h _ _ _ _ q), go := fun g hr e0 hb hv q => F.go g hr e0 hb hv (h _ _ _ _ q) }
/-- a def by its body, no guard standing around -/
theorem fnG_byR {x qual : Str} {st : Stmt} {N : List Str} {oc : Value} {od : Option Addr} {kV doc pmo : Value} {an : Option Addr} {cdv ct : Value} {osl : Array (Option Value)} (efd : fd = PySem.W.fnOf x qual (defArgs st) (defBody st) (defScope st) .none kV doc pmo an cdv ct) (look : K.lookup f = some ⟨oc, od, .func fd, osl⟩) (code : PySem.W.codeIn K cdv qual = true) (S : FnScope N ps (defScope st)) (len : ∀ vs H Q E, sp vs H Q E → vs.length = ps.length)
    (body : ∀ (A : Around) (outer : List Env) (s : Shared) (H : Hp) (vs : List V) (Q : VK) (E : XK), A.guards = some [] → Room k (A.deeper (envOfC qual (defScope st) s.heap.objs.size f cdv)) → sp vs H Q E →
      ∃ t, PSs (cxOf (L2.CX P w) P w K mg base N qual (defScope st) f cdv A outer s H E) (defBody st) t ∧ t { nx := fun _ H' => Q .non H', rt := Q } (L2.start N vs) H) : FnG P w K mg base (k + 1) f fd ps sp := by
  subst efd
  refine { len := len, go := fun {A outer s H args us vs Q E} guards room env binds vals want => ?_ }
  have inK : K.In s.heap := env.mod.kin.keeps fun b o h => (env.bs b o h).1
  have free : s.heap.NoLimit := env.mod.nolimit.keeps fun b o h => (env.bs b o h).1
  obtain ⟨t, term, wants⟩ := body A outer s H vs Q E guards (room.deeper _) want
  have kinds : ∀ y ∈ ps.zip us, (defScope st).names.lookup y.1 = some .local ∨ ((defScope st).names.lookup y.1 = some .cell ∧ ((cellsFrom (s.heap.objs.size + 1) (defScope st).names []).lookup y.1).isSome = true) := by
    intro y hy
    cases S.par y.1 (List.of_mem_zip (show (y.1, y.2) ∈ ps.zip us from hy)).1 with
    | inl h => exact .inl h
    | inr h => exact .inr ⟨h, PySem.W.cellsFrom_some _ _ _ (.inl h)⟩
  refine codeAny_call_function room.depth (inK f _ look) rfl S.co S.gen rfl (PySem.W.codeRec_of inK code) (binds _ _ _ _ (wpAny_newFunctionEnv_cells S.kind kinds fun fresh eqn s1 inCall => ?_))
  subst eqn
  have start := inv_start (CX := L2.CX P w) (cd := cdv) (E := E) (N := N) S room.hd env (len vs H Q E want) vals inCall
  refine And.intro (free.keeps inCall.toInCall.keep) (codeAny_func (wpAny_mono (term.run [] s1 (L2.start N vs) H _ start wants) (fun flow s' ended => ?_) fun e s' h => h))
  have leave : ∀ {σ' : L2.St} {H' : Hp} {v : V} {u : Value}, Inv (cxOf (L2.CX P w) P w K mg base N qual (defScope st) f cdv A outer s H E) [] σ' H' s' → RelV v u → Q v H' → CE outer P w H s Q u s' :=
    fun {σ' H' v u} inv rel got => ⟨v, H', inv.os, inv.bare, inv.base, inv.hok, rel, got⟩
  match flow, ended with
  | .ret _, ⟨_, _, _, inv, rel, got⟩ => exact leave inv rel got
  | .next, ⟨_, _, inv, got⟩ => exact leave (v := V.non) (u := Value.none) inv rfl got
  | .brk, ⟨_, _, _, no⟩ => exact no.elim
  | .cont, ⟨_, _, _, no⟩ => exact no.elim
theorem fnG_by {x qual : Str} {st : Stmt} {N : List Str} (F : Fun K x qual st f fd) (S : FnScope N ps (defScope st)) (len : ∀ vs H Q E, sp vs H Q E → vs.length = ps.length)
    (body : ∀ (cdv : Value) (A : Around) (outer : List Env) (s : Shared) (H : Hp) (vs : List V) (Q : VK) (E : XK), A.guards = some [] → Room k (A.deeper (envOfC qual (defScope st) s.heap.objs.size f cdv)) → sp vs H Q E →
      ∃ t, PSs (cxOf (L2.CX P w) P w K mg base N qual (defScope st) f cdv A outer s H E) (defBody st) t ∧ t { nx := fun _ H' => Q .non H', rt := Q } (L2.start N vs) H) : FnG P w K mg base (k + 1) f fd ps sp := by
  obtain ⟨oc, od, kV, doc, pmo, an, cdv, ct, osl, efd, look, code⟩ := F.ex
  exact fnG_byR efd look code S len fun A outer s H vs Q E => body cdv A outer s H vs Q E
end
section
variable {X : Cx} {k : Nat} {f : Addr} {fd : FuncData} {ps : List Str} {sp : Sp} {x : Str} {p pos : Pos} {e : Expr} {es : List Expr} {t : TA} {E : XK}
/-- such a def called -/
theorem pe_callG (hE : ∀ c d H, ¬ E c d H) (F : FnG X.prog X.w X.K X.mg X.base k f fd ps sp) (gd : X.A.guards = some []) (hr : Room k X.A) (hg : Gl X x) (hm : X.mg x = some (.ref f)) (hk : PySem.W.keepIn X.K (.ref f) = true) (hb : Binds X.K fd ps [])
    (ha : PA X (e :: es) t) (hdb : (x == ("__debug__" : Str)) = false) (he : starEach (e :: es) X.env = (false, eval e X.env) :: starEach es X.env) (hpl : (backTo pos (starEach es X.env)).any (·.1) = false) :
    PE X (.Call (.Name x p) (e :: es) [] pos) (tCall sp [] E t) := ⟨fun pins s σ H Q I h => by
  refine wpAny_Call_Name_kw (ld_glob I hg hm ?_ hdb)
  refine PySem.W.callWith_K (h₀ := X.base) I.ok.mod.kin hk (thn (ha.run pos pins s σ H _ I h) fun us s1 ⟨vs, H1, I1, rv, want⟩ => And.intro I1.kIn ?_) he hpl
  have want : sp vs H1 Q E := by simpa using want
  have hlen : (us ++ []).length = ps.length := by rw [List.append_nil, ← rv.length]; exact F.len _ _ _ _ want
  have binds := hb s1 us I1.kIn hlen
  rw [List.append_nil] at binds
  refine wpAny_call (codeAny_mono (F.go gd hr I1.env0 binds rv want) fun res s' got => ?_)
  match res, got with
  | .ok (.ret _), got => exact I1.after got
  | .ok .next, got => exact got.elim
  | .ok .brk, got => exact got.elim
  | .ok .cont, got => exact got.elim
  | .error _, ⟨_, _, _, _, _, _, _, _, _, _, _, _, z⟩ => exact (hE _ _ _ z).elim⟩
end
/-! ### the law's end -/
theorem law_callG {P : Program} {w : World} {K : PySem.W.Frag} {mg mb : Str → Option Value} {k : Nat} {fa a : Addr} {fd : FuncData} {x : Str} {sp : Sp} {s1 : Shared} {vs : List Value} {ns : List Int}
    (KX : K.In s1.heap) (hns : s1.heap.Ns mainGlobals mg) (hb : s1.heap.Ns builtinsNs mb) (hbb : ∀ x : Str, x ≠ "__name__" → mb x = bootBuiltins x) (hlim : s1.heap.NoLimit) (hg : s1.gens = #[])
    (ha : s1.heap.get? a = some { cls := .type "list", data := .seq vs.toArray }) (hi : IntsAre vs ns) (hl : ns.length ≤ sizeLine) (hr : Room k callerA)
    (F : ∀ base : Heap, K.In base → base.Ns mainGlobals mg → FnG P w K mg base k fa fd [x] sp) (hbind : ∀ (s : Shared) (u : Value), BindsTo s fd ⟨[u], []⟩ [(x, u)])
    (hsp : ∀ H : Hp, Only H → SqL K H a (ns.map V.int) → sp [.ref a] H (fun v _ => v = .bl true) fun _ _ _ => False) :
    codeAny (model P w) callerA (.call (.ref fa) ⟨[.ref a], []⟩) (fun r s' => r = .ok (.ret (.bool true)) ∧ OldK s1.heap s'.heap ∧ s'.os = s1.os ∧ AllBare s'.gens) s1 := by
  have size : vs.length = ns.length := hi.length
  -- the run, out of an abstract heap that tracks the script alone, or nothing
  have run1 : ∀ T : Hp, Only T → SqL K T a (ns.map V.int) → HOk P w T s1.heap → (∀ b u, T b = some u → b = a ∧ K.lookup a = none) →
      codeAny (model P w) callerA (.call (.ref fa) ⟨[.ref a], []⟩) (fun r s' => r = .ok (.ret (.bool true)) ∧ OldK s1.heap s'.heap ∧ s'.os = s1.os ∧ AllBare s'.gens) s1 := fun T only script fine mine => by
    have stands : ∀ {b : Addr} {o : Obj}, s1.heap.get? b = some o → (T b = none ∨ b ≠ a ∨ ∃ q, K.lookup a = some q) → (hidT s1.heap T).get? b = some o := fun {b o} h why => hidT_get h (by
      match q : T b with
      | none => rfl
      | some u =>
        obtain ⟨e1, e2⟩ := mine b u q
        rcases why with z | z | ⟨_, z⟩
        · rw [q] at z; cases z
        · exact absurd e1 z
        · rw [e2] at z; cases z)
    have spaces : ∀ {b : Addr} {m : Str → Option Value}, s1.heap.Ns b m → (hidT s1.heap T).Ns b m := fun {b m} n => by
      obtain ⟨o, es, ep, h1, h2, h3⟩ := n
      refine ⟨o, es, ep, stands h1 (.inr (.inl fun e => ?_)), h2, h3⟩
      subst e
      rw [ha] at h1
      cases h1
      exact Data.noConfusion (show Data.seq vs.toArray _ = Data.dict es ep from h2)
    have parts : K.In (hidT s1.heap T) := fun b o h => by
      by_cases e : b = a
      · exact stands (KX b o h) (.inr (.inr ⟨o, e ▸ h⟩))
      · exact stands (KX b o h) (.inr (.inl e))
    obtain ⟨ml, l1, l2⟩ := hlim
    have module : Mod K mg (hidT s1.heap T) := { kin := parts, glob := spaces hns, blt := ⟨mb, spaces hb, hbb⟩, nolimit := ⟨ml, spaces l1, l2⟩ }
    have around : Env0 P w K mg (hidT s1.heap T) callerA [] s1 T :=
      { frames := rfl, mod := module, bs := fun b o h => of_hidT h, bsz := Nat.le_of_eq (hidT_size _ _), funs := trivial, frf := (fun b h => nomatch h), hok := fine, bare := .of_eq hg }
    have ran := (F _ parts (spaces hns)).go (A := callerA) (args := ⟨[.ref a], []⟩) (us := [.ref a]) (vs := [.ref a]) rfl hr around (hbind s1 (.ref a)) (.cons rfl .nil) (hsp T only script)
    refine codeAny_mono ran fun res s' got => ?_
    match res, got with
    | .error _, ⟨_, _, _, _, _, _, _, _, _, _, _, _, z⟩ => exact z.elim
    | .ok .next, no => exact no.elim
    | .ok .brk, no => exact no.elim
    | .ok .cont, no => exact no.elim
    | .ok (.ret u), ⟨v, T', os, bare, un, fine', rel, ev⟩ =>
      dsimp only at ev
      subst ev
      have eu : u = Value.bool true := rel
      subst eu
      refine ⟨rfl, OldK.of_keep fun b o old => ?_, os, bare⟩
      rcases only b with free | ⟨ob, xs, lock⟩
      · exact un.keep b o old free (fun z => (nomatch z)) (fun z => (nomatch z))
      · have before := (fine b _ lock).1
        have after := (fine' b _ (un.frzs b ob _ lock)).1
        rw [old] at before
        cases before
        exact after
  match part : K.lookup a with
  | some o =>
    have same := KX a o part
    rw [ha] at same
    cases same
    exact run1 (fun _ => none) (fun _ => .inl rfl) (.inr ⟨_, vs.toArray, _, part, rfl, rfl, rfl, by rw [List.size_toArray, size]; exact hl, by simpa using vals_ints hi⟩) (fun b u z => nomatch z) (fun b u z => nomatch z)
  | none =>
    let O : Obj := { cls := .type "list", data := .seq vs.toArray }
    have at_a : (fun b => if b = a then some (HO.frz O (.lst (ns.map V.int))) else none : Hp) a = some (.frz O (.lst (ns.map V.int))) := if_pos rfl
    refine run1 (fun b => if b = a then some (.frz O (.lst (ns.map V.int))) else none) (fun b => ?_) (.inl (.inr ⟨O, at_a⟩)) (fun b u z => ?_) (fun b u z => ?_)
    · by_cases e : b = a
      · exact .inr ⟨O, ns.map V.int, if_pos e⟩
      · exact .inl (if_neg e)
    · by_cases e : b = a
      · have z := (if_pos e).symm.trans z
        cases z
        rw [e]
        exact ⟨ha, by rw [List.length_map]; exact hl, vs, _, vals_ints hi, ha⟩
      · cases (if_neg e).symm.trans z
    · by_cases e : b = a
      · exact ⟨e, part⟩
      · cases (if_neg e).symm.trans z
theorem walk_G {l : PySem.W.OpenLaw} {n k : Nat} {q : Program} {loose : List Str} {XP : (Str → Option Value) → Heap → Prop} {YP : World → Heap → Prop} {d : DefRec} {K : Params → PySem.W.Frag} {sp : World → Sp} {x : Str}
    (hn : l.most = some n) (hn2 : n ≤ sizeLine) (hdf : d.params.defaults = []) (hr : Room k callerA) (hY : ∀ (w : World) (h : Heap), YP w h → (K w.params).In h)
    (F : ∀ (w : World) (mg : Str → Option Value) (fa : Addr) (h : Heap), (K w.params).In h → h.Ns mainGlobals mg → mg d.name = some (.ref fa) →
      ∃ fd : FuncData, (∀ (s : Shared) (u : Value), BindsTo s fd ⟨[u], []⟩ [(x, u)]) ∧ ∀ base : Heap, (K w.params).In base → base.Ns mainGlobals mg → FnG l.prog w (K w.params) mg base k fa fd [x] (sp w))
    (hsp : ∀ (w : World) (H : Hp) (a : Addr) (ns : List Int), ns.length ≤ n → Only H → SqL (K w.params) H a (ns.map V.int) → sp w [.ref a] H (fun v _ => v = .bl true) fun _ _ _ => False) :
    PySem.W.WalkO q loose XP YP l.row.toRowW d [] (fun f vs => PySem.call f vs) := by
  refine Att.attach_call hn hdf fun w s0 s1 mg mb fa o pm_ cd doc a vs ns G Y ho hd hcd hmg hobj hints hlen hg => ?_
  obtain ⟨fd, hb, hF⟩ := F w mg fa _ (hY w _ Y) G.T.g hmg
  exact law_callG (hY w _ Y) G.T.g G.T.b G.T.builtins G.T.nolimit hg hobj hints (Nat.le_trans hlen hn2) hr hF hb fun H hO hS => hsp w H a ns hlen hO hS
end Z

set_option Elab.async false
set_option linter.all false
set_option maxRecDepth 100000
set_option maxHeartbeats 4000000
/-! Z15: repr; the defs that ask for it. -/
namespace Z
open PySem PySem.Spec PyProof.Rows L2
theorem pl_noDict : ∀ {n : Nat}, (∀ {d : D}, pl n d = true → (py d).hasDict = false) ∧ (∀ {l : List D}, pls n l = true → PyData.hasDictAll (pys l) = false) := by
  intro n
  induction n with
  | zero =>
    have h1 : ∀ {d : D}, pl 0 d = true → (py d).hasDict = false := fun {d} h => by cases d <;> first | rfl | simp [pl] at h
    refine ⟨h1, fun {l} => ?_⟩
    induction l with
    | nil => exact fun _ => rfl
    | cons d l ih => exact fun h => by simp [pls] at h; simp [pys, PyData.hasDictAll, h1 h.1, ih h.2]
  | succ n ih =>
    have h1 : ∀ {d : D}, pl (n + 1) d = true → (py d).hasDict = false := fun {d} h => by
      cases d with
      | tup l => simp [pl] at h; simp [py, PyData.hasDict, ih.2 h]
      | lst o l => simp [pl] at h; simp [py, PyData.hasDict, ih.2 h]
      | _ => first | rfl | simp [pl] at h
    refine ⟨h1, fun {l} => ?_⟩
    induction l with
    | nil => exact fun _ => rfl
    | cons d l ih => exact fun h => by simp [pls] at h; simp [pys, PyData.hasDictAll, h1 h.1, ih h.2]
def shw (d : D) : Bool := pl 50 d && (py d).showable && decide ((py d).shown.length ≤ 10000000)
def reprS : List D → Option D
  | [.lst o l] => if shw (.lst o l) = true then some (.str (py (.lst o l)).shown) else none
  | [.tup l] => if shw (.tup l) = true then some (.str (py (.tup l)).shown) else none
  | _ => none
variable {c : Ctx} {G : Cfg} {σ : L2.St} {H : Hp} {r : Rho} {X : Cx} {Q : VK}
theorem repr_ok (hG : G.K = X.K) (gd : X.A.guards = some []) (hu : X.A.units + 64 < cLine) : CallR X (.builtin "repr") (rZ false G reprS) := by
  intro pins s σ H vs us Q I rv h
  obtain ⟨B, g, ds, d, w, hl, hm, hk, hf, q⟩ := h
  have key : ∀ {x : V} {d1 : D}, vs = [x] → (x, d1) ∈ g → (∃ a, x = .ref a) → shw d1 = true → d = .str (py d1).shown → wpAny (model X.prog X.w) X.A (call (.builtin "repr") us) (EP X pins σ Q) X.xe s := by
    intro x d1 ev m1 ⟨a, ea⟩ hs hd
    have hs' : (pl 50 d1 = true ∧ (py d1).showable = true) ∧ (py d1).shown.length ≤ 10000000 := by simpa [shw] using hs
    have r1 := w.dp m1 hs'.1.1
    rw [hG] at r1
    subst ev ea hd
    have eu := Vals.ref1 rv
    subst eu
    obtain ⟨as, reads⟩ := Dp.reads I _ (.ref a) (.ref a) r1 rfl
    have depth := (pl_plain hs'.1.1).2
    refine repr_of_reads' reads hs'.1.2 (fun z => ?_) gd (by omega) (fun b o e => e) (fun h' u tk keep => ?_) (lim_ok hs'.2)
    · rw [pl_noDict.1 hs'.1.1] at z; cases z
    · exact ⟨.str (py d1).shown, H, I.kept (t' := tk) keep, ⟨u, rfl⟩, w.scal q fun F => by simp [Tr]⟩
  unfold reprS at hf
  split at hf
  · rename_i o l
    split at hf
    · rename_i hs
      match vs, hl with
      | [x], _ =>
      obtain ⟨a, xs, e, _⟩ := w.lst (mem1 hm)
      exact key rfl (mem1 hm) ⟨a, e⟩ hs (by cases hf; rfl)
    · cases hf
  · rename_i l
    split at hf
    · rename_i hs
      match vs, hl with
      | [x], _ =>
      obtain ⟨a, xs, e, _⟩ := w.tup (mem1 hm)
      exact key rfl (mem1 hm) ⟨a, e⟩ hs (by cases hf; rfl)
    · cases hf
  · cases hf
/-- a def that can be called while no repr is under way -/
structure CalG (P : Program) (w : World) (G : Cfg) (mg : Str → Option Value) (base : Heap) (k : Nat) (x : Str) (nio : Nat) (φ : List D → Option FR) : Prop where
  ex : ∃ (f : Addr) (fd : FuncData) (ps : List Str), FnG P w G.K mg base k f fd ps (spZ G nio φ) ∧ L2.Binds G.K fd ps [] ∧ mg x = some (.ref f) ∧ PySem.W.keepIn G.K (.ref f) = true
section
variable {P : Program} {w : World} {mg : Str → Option Value} {base : Heap}
theorem fnZG {x qual : Str} {st : Stmt} {f : Addr} {fd : FuncData} {Ns ps : List Str} {k : Nat} {m : MS} (nio : Nat) (F : Fun G.K x qual st f fd) (S : FnScope Ns ps (defScope st)) (hn : nio ≤ ps.length)
    (hb : ∀ (B : Bs) (ios : List (Nat × V)) (cdv : Value) (A : Around) (outer : List Env) (s : Shared) (H : Hp) (E : XK), A.guards = some [] → (∀ p ∈ ios, p.1 < nio) → Room k (A.deeper (envOfC qual (defScope st) s.heap.objs.size f cdv)) →
      TkP (cxOf (L2.CX P w) P w G.K mg base Ns qual (defScope st) f cdv A outer s H E) E → PSs (cxOf (L2.CX P w) P w G.K mg base Ns qual (defScope st) f cdv A outer s H E) (defBody st) (tS ⟨G, B, ios, fun _ => E⟩ m)) :
    FnG P w G.K mg base (k + 1) f fd ps (spZ G nio (run Ns.length ps.length nio m)) := by
  have hpl : ps.length ≤ Ns.length := by have := congrArg List.length S.pre; rw [List.length_take] at this; omega
  exact fnG_by F S (fun vs H Q E h => spZ_len h) fun cdv A outer s H vs Q E gd hr h => bodyZ nio hn hpl h fun B ios hio => hb B ios cdv A outer s H E gd hio hr ⟨takes_of rfl rfl rfl rfl, passes_of rfl⟩
theorem calG {x : Str} {st : Stmt} {Ns ps : List Str} {k nio : Nat} {m : MS} {φ : List D → Option FR} (Df : DefZ G.K mg x st ps) (S : FnScope Ns ps (defScope st)) (hn : nio ≤ ps.length)
    (hb : ∀ (B : Bs) (ios : List (Nat × V)) (f : Addr) (cdv : Value) (A : Around) (outer : List Env) (s : Shared) (H : Hp) (E : XK), A.guards = some [] → (∀ p ∈ ios, p.1 < nio) → Room k (A.deeper (envOfC x (defScope st) s.heap.objs.size f cdv)) →
      TkP (cxOf (L2.CX P w) P w G.K mg base Ns x (defScope st) f cdv A outer s H E) E → PSs (cxOf (L2.CX P w) P w G.K mg base Ns x (defScope st) f cdv A outer s H E) (defBody st) (tS ⟨G, B, ios, fun _ => E⟩ m)) (hphi : φ = run Ns.length ps.length nio m) : CalG P w G mg base (k + 1) x nio φ := by
  obtain ⟨f, fd, F, hm, b⟩ := Df.ex
  subst hphi
  exact ⟨f, fd, ps, fnZG nio F S hn (fun B ios => hb B ios f), b, hm, F.kp⟩
end
section
variable {x : Str} {p pos : Pos} {ex : Expr} {es : List Expr} {ms : M (List Opd)} {φ : List D → Option FR} {k kk : Nat}
theorem z_g0 (C : CalG X.prog X.w c.G X.mg X.base k x 0 φ) (gd : X.A.guards = some []) (hG : c.G.K = X.K) (hr : Room kk X.A) (ha : PA X (ex :: es) (tma c ms)) (hkk : k ≤ kk) (hg : Gl X x := by rfl)
    (hdb : (x == ("__debug__" : Str)) = false := by decide) (he : starEach (ex :: es) X.env = (false, eval ex X.env) :: starEach es X.env := by rfl) (hpl : (backTo pos (starEach es X.env)).any (·.1) = false := by rfl) :
    PE X (.Call (.Name x p) (ex :: es) [] pos) (tm c (call0 φ ms)) := by
  obtain ⟨f, fd, ps, h1, h2, h3, h4⟩ := C.ex
  rw [hG] at h1 h2 h4
  exact pe_imp (pe_callG (E := EFalse) (fun _ _ _ z => z) h1 gd (hr.mono hkk) hg h3 h4 h2 ha hdb he hpl) fun σ H Q h => red_call0 h
theorem z_g1 (C : CalG X.prog X.w c.G X.mg X.base k x 1 φ) (gd : X.A.guards = some []) (hG : c.G.K = X.K) (hr : Room kk X.A) (ha : PA X (ex :: es) (tma c ms)) (hkk : k ≤ kk) (hg : Gl X x := by rfl)
    (hdb : (x == ("__debug__" : Str)) = false := by decide) (he : starEach (ex :: es) X.env = (false, eval ex X.env) :: starEach es X.env := by rfl) (hpl : (backTo pos (starEach es X.env)).any (·.1) = false := by rfl) :
    PE X (.Call (.Name x p) (ex :: es) [] pos) (tm c (call1 φ ms)) := by
  obtain ⟨f, fd, ps, h1, h2, h3, h4⟩ := C.ex
  rw [hG] at h1 h2 h4
  exact pe_imp (pe_callG (E := EFalse) (fun _ _ _ z => z) h1 gd (hr.mono hkk) hg h3 h4 h2 ha hdb he hpl) fun σ H Q h => red_call1 h
end
end Z

set_option Elab.async false
set_option linter.all false
set_option maxRecDepth 100000
set_option maxHeartbeats 4000000
/-! Z16: dicts: looking up, in, len, put, new ones. -/
namespace Z
open PySem PySem.Spec PyProof.Rows L2
section
variable {κ : Type} [DecidableEq κ]
def posK (ks : List κ) (k : κ) : Option Nat := ks.findIdx? fun x => decide (x = k)
theorem posK_cons (a : κ) (ks : List κ) (k : κ) : posK (a :: ks) k = if a = k then some 0 else (posK ks k).map (· + 1) := by
  unfold posK
  rw [List.findIdx?_cons]
  by_cases h : a = k <;> simp [h]
theorem valV_pos' : ∀ (kvs : List (κ × V)) (k : κ), valV kvs k = (posK (kvs.map (·.1)) k).bind fun i => (kvs.map (·.2))[i]?
  | [], _ => rfl
  | p :: r, k => by
    rw [List.map_cons, List.map_cons, posK_cons]
    by_cases h : p.1 = k
    · rw [valV_pos h, if_pos h]; rfl
    · rw [valV_neg h, if_neg h, valV_pos' r k]
      cases posK (r.map (·.1)) k <;> simp
theorem posK_lt {ks : List κ} {k : κ} {i : Nat} (h : posK ks k = some i) : i < ks.length := by
  unfold posK at h
  exact (List.findIdx?_eq_some_iff_getElem.mp h).1
theorem posK_get {ks : List κ} {k : κ} {i : Nat} (h : posK ks k = some i) : ks[i]? = some k := by
  unfold posK at h
  obtain ⟨hi, h2, _⟩ := List.findIdx?_eq_some_iff_getElem.mp h
  rw [List.getElem?_eq_getElem hi]
  simpa using h2
theorem posK_none {ks : List κ} {k : κ} (h : posK ks k = none) : k ∉ ks := by
  unfold posK at h
  intro hm
  have := List.findIdx?_eq_none_iff.mp h k hm
  simp at this
theorem put_none {kvs : List (κ × V)} {k : κ} {v : V} (h : posK (kvs.map (·.1)) k = none) : (putK kvs k v).map (·.1) = kvs.map (·.1) ++ [k] ∧ (putK kvs k v).map (·.2) = kvs.map (·.2) ++ [v] := by
  rw [putK_new v (by rw [valV_pos', h]; rfl)]
  simp
theorem put_some {kvs : List (κ × V)} {k : κ} {v : V} {i : Nat} (nd : (kvs.map (·.1)).Nodup) (h : posK (kvs.map (·.1)) k = some i) : (putK kvs k v).map (·.1) = kvs.map (·.1) ∧ (putK kvs k v).map (·.2) = (kvs.map (·.2)).set i v := by
  have hi := posK_lt h
  have hi2 : i < kvs.length := by simpa using hi
  have hg := posK_get h
  have an : (kvs.any fun kv => decide (kv.1 = k)) = true := by
    rw [valV_any, valV_pos', h]
    simp [hi2]
  unfold putK
  rw [if_pos an]
  refine ⟨?_, ?_⟩
  · rw [List.map_map]
    refine List.map_congr_left fun p _ => ?_
    show (if p.1 = k then (p.1, v) else p).1 = p.1
    by_cases h : p.1 = k <;> simp [h]
  · refine List.ext_getElem (by simp) fun j h1 h2 => ?_
    have hj : j < kvs.length := by simpa using h1
    rw [List.getElem_set]
    simp only [List.getElem_map]
    have gk : (kvs.map (·.1))[i]'hi = k := by rw [List.getElem?_eq_getElem hi] at hg; exact Option.some.inj hg
    by_cases e : i = j
    · subst e
      have : kvs[i].1 = k := by simpa using gk
      simp [this]
    · have : ¬ kvs[j].1 = k := fun z => e (by
        have hj' : j < (kvs.map (·.1)).length := by simpa using hj
        have : (kvs.map (·.1))[i]'hi = (kvs.map (·.1))[j]'hj' := by rw [gk]; simp [z]
        exact (List.getElem_inj nd).mp this)
      simp [this, e]
end
def keyD : D → Option Key
  | .int i => some (.inl i)
  | .str s => some (.inr s)
  | _ => none
def keysD : List D → Option (List Key)
  | [] => some []
  | d :: r => match keyD d, keysD r with
    | some a, some b => some (a :: b)
    | _, _ => none
/-- where a key stands: asked or not, there or not -/
def posD : KK → D → Option (Option Nat)
  | .k ks, d => (keyD d).map fun k => posK ks k
  | .t ks, .tup l => (keysD l).map fun k => posK ks k
  | _, _ => none
def addKK : KK → D → Option KK
  | .k ks, d => (keyD d).map fun k => .k (ks ++ [k])
  | .t ks, .tup l => (keysD l).map fun k => .t (ks ++ [k])
  | _, _ => none
variable {G : Cfg} {B : Bs} {H : Hp} {g : List It} {p a : Addr} {v y : V} {d : D} {X : Cx} {Q : VK} {c : Ctx}
theorem keyD_V {k : Key} (w : W G B H g) (m : (y, d) ∈ g) (h : keyD d = some k) : y = kV k := by
  unfold keyD at h
  split at h
  · cases h; exact w.int m
  · cases h; exact w.str m
  · cases h
theorem keysD_V : ∀ {l : List D} {xs : List V} {ks : List Key}, xs.length = l.length → (∀ (i : Nat) (x : V) (d : D), xs[i]? = some x → l[i]? = some d → ∃ g', W G B H ((x, d) :: g')) → keysD l = some ks → xs = ks.map kV
  | [], [], _, _, _, h => by cases h; rfl
  | [], _ :: _, _, e, _, _ => by simp at e
  | _ :: _, [], _, e, _, _ => by simp at e
  | d :: l, x :: xs, ks, e, k, h => by
    unfold keysD at h
    split at h
    · rename_i a b ha hb
      cases h
      obtain ⟨g', w⟩ := k 0 x d rfl rfl
      rw [List.map_cons, keyD_V w List.mem_cons_self ha, keysD_V (by simpa using e) (fun i x d h1 h2 => k (i + 1) x d h1 h2) hb]
    · cases h
theorem keyD_no {k : Key} (h : keyD d = some k) : noOwn d = true := by
  unfold keyD at h
  split at h <;> first | rfl | cases h
theorem keysD_no : ∀ {l : List D} {ks : List Key}, keysD l = some ks → noOwns l = true
  | [], _, _ => rfl
  | d :: l, _, h => by
    unfold keysD at h
    split at h
    · rename_i a b ha hb
      simp [noOwns, keyD_no ha, keysD_no hb]
    · cases h
theorem tup_keys {l : List D} {ks : List Key} (w : W G B H g) (m : (y, .tup l) ∈ g) (h : keysD l = some ks) : ∃ b, y = .ref b ∧ H b = some (.tup (ks.map kV)) := by
  obtain ⟨b, xs, e, hb, k⟩ := w.tup m
  refine ⟨b, e, ?_⟩
  rw [hb, keysD_V (G := G) (B := B) (H := H) k.len (fun i x d h1 h2 => ⟨g, w.add ((k.kc (keysD_no h)).cp i x d h1 h2)⟩) h]
theorem dget_of {ks : KK} {xs : List V} {o : Option Nat} (w : W G B H g) (e : DRd H a ks xs) (m : (y, d) ∈ g) (h : posD ks d = some o) : DGet H a y (o.bind fun i => xs[i]?) := by
  have rd : ∀ {u : HO}, (H a = some u ∨ ∃ o, H a = some (.frz o u)) → Rd H a u := fun h => h
  unfold posD at h
  split at h
  · rename_i ks d0
    obtain ⟨k, hk, rfl⟩ := Option.map_eq_some_iff.mp h
    have ey := keyD_V w m hk
    rcases e with (⟨kvs, e, e1, e2, _⟩ | ⟨kvs, e, e1, e2, _⟩) | ⟨o, u, e0, (⟨kvs, e, e1, e2, _⟩ | ⟨kvs, e, e1, e2, _⟩)⟩
    · cases e1; exact .inl ⟨kvs, k, .inl e, ey, by rw [valV_pos', e2]⟩
    · cases e1
    · cases e1; cases e; exact .inl ⟨kvs, k, .inr ⟨o, e0⟩, ey, by rw [valV_pos', e2]⟩
    · cases e1
  · rename_i ks l
    obtain ⟨k, hk, rfl⟩ := Option.map_eq_some_iff.mp h
    obtain ⟨b, ey, eb⟩ := tup_keys w m hk
    rcases e with (⟨kvs, e, e1, e2, _⟩ | ⟨kvs, e, e1, e2, _⟩) | ⟨o, u, e0, (⟨kvs, e, e1, e2, _⟩ | ⟨kvs, e, e1, e2, _⟩)⟩
    · cases e1
    · cases e1; exact .inr ⟨kvs, k, b, .inl e, ey, eb, by rw [valV_pos', e2]⟩
    · cases e1
    · cases e1; cases e; exact .inr ⟨kvs, k, b, .inr ⟨o, e0⟩, ey, eb, by rw [valV_pos', e2]⟩
  · cases h
/-! ### d[k] -/
def idxD : List D → Option D
  | [.dct _ ks l, d] => match posD ks d with
    | some (some i) => l[i]?
    | _ => none
  | _ => none
theorem ix_dict {value slice : Expr} {pins : List (Addr × Obj)} {s : Shared} {σ : L2.St} {u : Value} {z : V} (hu : X.A.units + 1 < cLine) (I : Inv X pins σ H s) (gt : DGet H a y (some z)) (ry : L2.RelV y u) (q : Q z H)
    (hs : subscripted slice false (.ref a) u = operate [.ref a, u] (getItem (.ref a) u)) : wpAny (model X.prog X.w) X.A (subscriptTail value slice (.ref a) u) (EP X pins σ Q) X.xe s := by
  have hT := dict_typeIs I gt
  have fin : wpAny (model X.prog X.w) X.A (subscripted slice false (.ref a) u) (fun r s₃ => wpAny (model X.prog X.w) X.A (letTemporaryGo value (.ref a) r >>= fun _ => pure r) (EP X pins σ Q) X.xe s₃) X.xe s := by
    rw [hs]
    exact wpAny_operating (wpAny_mono (d_getItem hu I gt ry fun w' s3 I3 rw' => (⟨z, H, I3, rw', q⟩ : EP X pins σ Q w' s3)) (fun r s₃ h₃ => wpAny_bind (wpAny_letTemporaryGo (wpAny_pure h₃))) fun _ _ x => x)
  unfold subscriptTail
  refine wpAny_bind ?_
  rw [getitemInPython_of_ne hT.not_modules]
  refine wpAny_bind (wpAny_specialOf hT PySem.F.slot_dict_getitem.lookup ?_)
  first
    | exact wpAny_pure (wpAny_bind fin)
    | exact wpAny_bind (wpAny_pure (wpAny_bind fin))
    | exact wpAny_bind fin
theorem idxD_ok (hu : X.A.units + 1 < cLine) : IxR X (fun x y => rZ true G idxD [x, y]) := by
  intro value slice pins s σ H x y v u Q I rx ry h hs
  obtain ⟨B, g, ds, d, w, hl, hm, hk, hf, q⟩ := h
  obtain ⟨d1, d2, rfl⟩ := len2 hl
  obtain ⟨m1, m2⟩ := mem2 hm
  obtain ⟨k1, k2⟩ := kn2 (hk rfl)
  unfold idxD at hf
  split at hf
  · rename_i o ks l d0 e
    cases e
    split at hf
    · rename_i i hp
      obtain ⟨a, xs, e1, h1, c1⟩ := w.dct m1
      have hi : i < l.length := (List.getElem?_eq_some_iff.mp hf).1
      have hx : xs[i]? = some (xs[i]'(by rw [c1.len]; exact hi)) := List.getElem?_eq_getElem _
      have gt := dget_of w h1 m2 hp
      have e2 : ((some i).bind fun i => xs[i]?) = some (xs[i]'(by rw [c1.len]; exact hi)) := hx
      rw [e2] at gt
      subst e1
      cases rx
      have no : noOwns l = true := by simpa [kn] using k1
      exact ix_dict hu I gt ry (q _ _ (w.add ((c1.kc no).cp i _ d hx hf))) hs
    · cases hf
  · cases hf
/-! ### k in d -/
def inD (neg : Bool) : List D → Option D
  | [d, .dct _ ks _] => (posD ks d).map fun o => .bl (neg ^^ o.isSome)
  | _ => none
theorem inD_ok (hu : X.A.units + 1 < cLine) (neg : Bool) : OpR X (compareOp (if neg then .NotIn else .In)) (fun x y => rZ false G (inD neg) [x, y]) := by
  intro pins s σ H x y v u Q I rx ry h
  obtain ⟨B, g, ds, d, w, hl, hm, hk, hf, q⟩ := h
  obtain ⟨d1, d2, rfl⟩ := len2 hl
  obtain ⟨m1, m2⟩ := mem2 hm
  unfold inD at hf
  split at hf
  · rename_i d0 o ks l e
    cases e
    obtain ⟨p, hp, rfl⟩ := Option.map_eq_some_iff.mp hf
    obtain ⟨a, xs, e1, h1, c1⟩ := w.dct m2
    have gt := dget_of w h1 m1 hp
    have sm : (p.bind fun i => xs[i]?).isSome = p.isSome := by
      cases p with
      | none => rfl
      | some i =>
        have hi : i < xs.length := by
          have ll : ks.len = xs.length := by
            rcases h1 with h1 | ⟨_, _, _, h1⟩
            · exact h1.len
            · exact h1.len
          rw [← ll]
          unfold posD at hp
          split at hp
          · obtain ⟨k, _, e⟩ := Option.map_eq_some_iff.mp hp
            exact posK_lt e
          · obtain ⟨k, _, e⟩ := Option.map_eq_some_iff.mp hp
            exact posK_lt e
          · cases hp
        simp [hi]
    subst e1
    cases ry
    cases neg with
    | true => exact d_notIn hu I gt rx fun s3 I3 => ⟨.bl (!(p.bind fun i => xs[i]?).isSome), H, I3, rfl, by rw [sm]; exact w.scal (by simpa using q) fun F => by simp [Tr]⟩
    | false => exact d_in hu I gt rx fun s3 I3 => ⟨.bl (p.bind fun i => xs[i]?).isSome, H, I3, rfl, by rw [sm]; exact w.scal (by simpa using q) fun F => by simp [Tr]⟩
  · cases hf
/-! ### new ones -/
def dnewK : M D := fun r => some (.ok (.dct true (.k []) []) r)
def dnewT : M D := fun r => some (.ok (.dct true (.t []) []) r)
theorem z_dnewT {pos : Pos} : PE X (.Dict [] [] pos) (tm c dnewT) := pe_imp pe_dnewT fun σ H Q ⟨r, e, x, n, hx, fin⟩ => by
  cases hx
  exact fun p hp => fin _ _ n.al ((n.w.new hp).closeD (xs := []) (l := []) rfl (.inr ⟨[], rfl, rfl, rfl, List.nodup_nil⟩))
theorem z_dnewK {pos : Pos} : PE X (.Dict [] [] pos) (tm c dnewK) := pe_imp pe_dnewK fun σ H Q ⟨r, e, x, n, hx, fin⟩ => by
  cases hx
  exact fun p hp => fin _ _ n.al ((n.w.new hp).closeD (xs := []) (l := []) rfl (.inl ⟨[], rfl, rfl, rfl, List.nodup_nil⟩))
/-! ### name[k] = .. -/
theorem set_dict (hu : X.A.units + 1 < cLine) : PSet X (fun o i v H Q => ∃ a H4, o = .ref a ∧ DPut H a i v H4 ∧ Q H4) := by
  intro pins s σ H o i v ov iv u Q I ro ri rv h
  obtain ⟨a, H4, rfl, g, q⟩ := h
  cases ro
  exact d_setItem hu I g ri rv fun s' I' => ⟨H4, I', q⟩
/-- the dict behind d[k] = x -/
def putD (ks : KK) (l : List D) (k x : D) : Option (KK × List D) := if ks.len < 10000000 then (match posD ks k with
  | some (some j) => if j < l.length then some (ks, l.set j x) else none
  | some none => (addKK ks k).map fun ks' => (ks', l ++ [x])
  | none => none) else none
theorem put_ho {ks ks' : KK} {l l' : List D} {xs : List V} {x k : D} {yv vv : V} (w : W G B H g) (m : (yv, k) ∈ g) (e : DHo (H a) ks xs) (ln : xs.length = l.length) (h : putD ks l k x = some (ks', l')) :
    ∃ o' xs', DPut H a yv vv (upd H a o') ∧ DHo (some o') ks' xs' ∧ xs'.length = l'.length ∧ ((∃ j, l' = l.set j x ∧ xs' = xs.set j vv ∧ j < l.length) ∨ (l' = l ++ [x] ∧ xs' = xs ++ [vv])) := by
  unfold putD at h
  have kl : ks.len = xs.length := e.len
  split at h
  · rename_i hz
    have line : ks.len < sizeLine := by rw [sizeLine_eq]; omega
    have nds : ∀ {κ : Type} [DecidableEq κ] {k : κ} {l : List κ}, l.Nodup → posK l k = none → (l ++ [k]).Nodup := fun {κ _ k l} nd hn =>
      List.nodup_append.mpr ⟨nd, by simp, fun a ha b hb e => by rw [List.mem_singleton.mp hb] at e; exact posK_none hn (e ▸ ha)⟩
    split at h
    · rename_i j hp
      split at h
      · rename_i jl
        cases h
        unfold posD at hp
        split at hp
        · rename_i ks d0
          obtain ⟨k1, hk, hj⟩ := Option.map_eq_some_iff.mp hp
          have ey := keyD_V w m hk
          rcases e with ⟨kvs, e, e1, e2, nd⟩ | ⟨kvs, e, e1, e2, nd⟩
          · cases e1
            obtain ⟨p1, p2⟩ := put_some (v := vv) nd hj
            exact ⟨.dK (putK kvs k1 vv), xs.set j vv, .inl ⟨kvs, k1, e, ey, by simpa [KK.len] using line, rfl⟩, .inl ⟨_, rfl, by rw [p1], by rw [p2, e2], by rw [p1]; exact nd⟩, by simp [ln], .inl ⟨j, rfl, rfl, jl⟩⟩
          · cases e1
        · rename_i ks l0
          obtain ⟨k1, hk, hj⟩ := Option.map_eq_some_iff.mp hp
          obtain ⟨b, ey, eb⟩ := tup_keys w m hk
          rcases e with ⟨kvs, e, e1, e2, nd⟩ | ⟨kvs, e, e1, e2, nd⟩
          · cases e1
          · cases e1
            obtain ⟨p1, p2⟩ := put_some (v := vv) nd hj
            exact ⟨.dT (putK kvs k1 vv), xs.set j vv, .inr ⟨kvs, k1, b, e, ey, eb, by simpa [KK.len] using line, rfl⟩, .inr ⟨_, rfl, by rw [p1], by rw [p2, e2], by rw [p1]; exact nd⟩, by simp [ln], .inl ⟨j, rfl, rfl, jl⟩⟩
        · cases hp
      · cases h
    · rename_i hp
      obtain ⟨ks2, ha, h2⟩ := Option.map_eq_some_iff.mp h
      cases h2
      cases ks with
      | k kl0 =>
        obtain ⟨k1, hk, hj⟩ := Option.map_eq_some_iff.mp (show (keyD k).map (fun q => posK kl0 q) = some none from hp)
        have ey := keyD_V w m hk
        have ea : ks' = .k (kl0 ++ [k1]) := by simpa [addKK, hk] using ha.symm
        subst ea
        rcases e with ⟨kvs, e, e1, e2, nd⟩ | ⟨kvs, e, e1, e2, nd⟩
        · cases e1
          obtain ⟨p1, p2⟩ := put_none (v := vv) hj
          exact ⟨.dK (putK kvs k1 vv), xs ++ [vv], .inl ⟨kvs, k1, e, ey, by simpa [KK.len] using line, rfl⟩, .inl ⟨_, rfl, by rw [p1], by rw [p2, e2], by rw [p1]; exact nds nd hj⟩, by simp [ln], .inr ⟨rfl, rfl⟩⟩
        · cases e1
      | t kl0 =>
        cases k with
        | tup l0 =>
          obtain ⟨k1, hk, hj⟩ := Option.map_eq_some_iff.mp (show (keysD l0).map (fun q => posK kl0 q) = some none from hp)
          obtain ⟨b, ey, eb⟩ := tup_keys w m hk
          have ea : ks' = .t (kl0 ++ [k1]) := by simpa [addKK, hk] using ha.symm
          subst ea
          rcases e with ⟨kvs, e, e1, e2, nd⟩ | ⟨kvs, e, e1, e2, nd⟩
          · cases e1
          · cases e1
            obtain ⟨p1, p2⟩ := put_none (v := vv) hj
            exact ⟨.dT (putK kvs k1 vv), xs ++ [vv], .inr ⟨kvs, k1, b, e, ey, eb, by simpa [KK.len] using line, rfl⟩, .inr ⟨_, rfl, by rw [p1], by rw [p2, e2], by rw [p1]; exact nds nd hj⟩, by simp [ln], .inr ⟨rfl, rfl⟩⟩
        | _ => simp [posD] at hp
    · cases h
  · cases h
def subD (i : Nat) (mi : M Opd) : MT := fun d r => match r[i]? with
  | some (some _) => (match mi r with
    | some (.ok o r1) => (match r1[i]?, opdD r1 o with
      | some (some (.dct true ks l)), some k => if noOwn k = true then (putD ks l k d).map fun p => r1.set i (some (.dct true p.1 p.2)) else none
      | _, _ => none)
    | _ => none)
  | _ => none
theorem W.setD {xs xs' : List V} {l l' : List D} {o' : HO} {ks' : KK} {j : Nat} (w : Wo G B H a (xs.zip l ++ ((v, d) :: g))) (ln : xs.length = l.length) (h1 : DHo (some o') ks' xs') (h2 : xs'.length = l'.length)
    (h3 : (∃ j, l' = l.set j d ∧ xs' = xs.set j v ∧ j < l.length) ∨ (l' = l ++ [d] ∧ xs' = xs ++ [v])) : W G B (upd H a o') ((.ref a, .dct true ks' l') :: g) := by
  refine Wo.closeD ?_ h2 h1
  rcases h3 with ⟨j, rfl, rfl, hj⟩ | ⟨rfl, rfl⟩
  · rw [zip_set]
    have jl : j < (xs.zip l).length := by rw [List.length_zip, ln, Nat.min_self]; exact hj
    have p1 : (xs.zip l ++ ((v, d) :: g)).Perm ((xs.zip l)[j] :: ((v, d) :: ((xs.zip l).eraseIdx j ++ g))) := by
      refine ((perm_erase (List.getElem?_eq_getElem jl)).append_right _).trans ?_
      exact List.Perm.cons _ List.perm_middle
    have w1 := (w.perm p1).drop
    refine w1.perm ?_
    exact ((perm_set jl).symm.append_right g)
  · rw [zip_app1 ln]
    refine w.perm ?_
    rw [List.append_assoc]
    rfl
theorem z_gsD (hu : X.A.units + 1 < cLine) (i : Nat) {x : Str} {ix : Expr} {px pos : Pos} {vs : List Nat} {mi : M Opd} (h : PE X ix (tmo c mi)) (hN : X.N[i]? = some x := by rfl) (hv : Vis X.env.scope x := by first | exact Or.inl rfl | exact Or.inr (Or.inl rfl) | exact Or.inr (Or.inr rfl)) (hd : (x == ("__debug__" : Str)) = false := by decide)
    (hcd : (x == ("__classdict__" : Str)) = false := by decide)
    (ha : ∀ v, assign (.Subscript (.Name x px) ix pos) X.env v = (do
      let ov ← holding [v] (eval (.Name x px) X.env)
      let iv ← holding [v, ov] (eval ix X.env)
      standAt pos
      holding [v, ov, iv] (setItem ov iv v)
      release [v, ov, iv] []) := by intro _; rfl) : PG X (.Subscript (.Name x px) ix pos) (tG c vs (subD i mi)) := pg_imp (pg_sub (pe_var hN hv hd hcd) h (set_dict hu) ha) fun v σ H Q ⟨r, e, d, r1, a, w, hg, kk⟩ => by
  unfold subD at hg
  split at hg
  · rename_i d0 hi0
    split at hg
    · rename_i o r2 hm
      split at hg
      · rename_i ks l k hi ho
        split at hg
        · rename_i nk
          obtain ⟨⟨ks', l'⟩, hp, e0⟩ := Option.map_eq_some_iff.mp hg
          subst e0
          obtain ⟨ov, hov⟩ := slot_has a.al hi0
          refine ⟨ov, hov, r, (v, d) :: e, _, ⟨a, Vok.nil, w⟩, hm, fun iv H2 a2 vk w2 => ?_⟩
          have n2 : Now c σ H2 [(iv, o)] r2 ((v, d) :: e) := ⟨a2, vk, w2⟩
          have miv := opd_mem n2 List.mem_cons_self ho
          have w3 : W c.G c.B H2 (((v, d) :: e) ++ envI σ r2) := W.drops (l := tmps [(iv, o)]) w2
          have w4 := w3.take a2.al hov hi
          obtain ⟨b, xs, e1, e2, ln, wo⟩ := w4.openD
          obtain ⟨o', xs', dp, h1, h2, h3⟩ := put_ho (vv := v) w2 miv e2 ln hp
          refine ⟨b, upd H2 b o', e1, dp, ?_⟩
          have w5 := W.setD (j := 0) wo ln h1 h2 h3
          rw [← e1] at w5
          have il : i < (r2.set i none).length := by rw [List.length_set]; exact (List.getElem?_eq_some_iff.mp hi).1
          have w6 := w5.put (a2.al.setR (y := none) fun z => by simp at z) il
          rw [set_self_of hov, List.set_set] at w6
          exact kk σ _ rfl (a2.setR hov) w6
        · cases hg
      · cases hg
    · cases hg
  · cases hg
end Z

set_option Elab.async false
set_option linter.all false
set_option maxRecDepth 100000
set_option maxHeartbeats 4000000
/-! Z17: a first one, and the others as a list; two fors; sums; sets of ints sorted; enumerate of zip. -/
namespace Z
open PySem PySem.Spec PyProof.Rows L2
section
variable {prog : Program} {w : World} {A : Around} {E : Value → Shared → Prop} {s : Shared} {env : Env} {elts : List Expr} {k : Nat} {pos : Pos}
theorem unpack_hd {l : Addr} {u : Value} {us : List Value} {Q : List Value → Shared → Prop} (hl : IsTup s.heap l (u :: us).toArray) (hh : A.handled = none) (hz : us.length ≤ 10000)
    (h : ∀ (h' : Heap) tk, (∀ b o, s.heap.get? b = some o → h'.get? b = some o) → Q [u, .ref h'.objs.size] { s with heap := h'.push { cls := .type "list", data := .seq us.toArray }, toks := tk }) : wpAny (model prog w) A (unpackItems (.ref l) 2 (some 1)) Q E s := by
  have hlt : l ≠ s.heap.objs.size := by obtain ⟨o, ho, _⟩ := hl; exact Nat.ne_of_lt (Heap.lt_size ho)
  unfold unpackItems
  refine wpAny_bind ?_
  unfold notIterableAtAll
  refine wpAny_bind (wpAny_specialOf hl.typeIs slot_tuple_iter.lookup ?_)
  refine wpAny_pure ?_
  simp only [Bool.false_eq_true, if_false]
  refine wpAny_bind (wpAny_holding (iter_tuple hl ?_))
  refine wpAny_bind (wpAny_holding (draw_tuple hlt 1 0 _ _ ⟨_, Heap.get?_push_size _ rfl, rfl, rfl⟩ (hl.push _) (by simp) fun h₁ hit₁ hs₁ => ?_))
  have hl₁ : IsTup h₁ l (u :: us).toArray := (hl.push _).extBut hs₁.extBut hlt
  rw [Nat.zero_add] at hit₁
  have hit₁' := hit₁
  obtain ⟨oi, hoi, _⟩ := hit₁'
  have hl₁' := hl₁
  obtain ⟨ol, hol, _⟩ := hl₁'
  rw [List.drop_zero]
  refine wpAny_bind (wpAny_holding (PySem.W.kun_collect (s := { s with heap := h₁ }) (T := "tuple_iterator") (.inr (.inr (.inr rfl))) (Walks.tuple (A := A.in1) hh s.heap.objs.size l hlt (u :: us).toArray) (fun j u st => st.1.typeIs) (k := 1) (by simp) ⟨hit₁, hl₁⟩ (Heap.lt_size hoi) (Heap.lt_size hol) (fun h₂ tk hk => ?_) (by rw [sizeLine_eq]; simp; omega)))
  have e1 : ((u :: us).toArray.toList.drop 1) = us := by simp
  rw [e1]
  show wpAny _ _ (newList (us.take (us.length - 0)) >>= fun d => pure ([u] ++ [d] ++ us.drop (us.length - 0))) _ _ _
  rw [Nat.sub_zero, List.take_length, List.drop_length]
  have he : ∀ b o, s.heap.get? b = some o → h₂.get? b = some o := fun b o e => hk b o (Nat.ne_of_lt (Heap.lt_size e)) (hs₁.extBut b o (Nat.ne_of_lt (Heap.lt_size e)) (Heap.get?_push_of_some _ e))
  exact wpAny_bind (wpAny_newList (wpAny_pure (h h₂ tk he)) (by rw [sizeLine_eq]; omega))
end
/-- own, *others = a tuple -/
def gHd (K : PySem.W.Frag) (t : TGs) : TG := fun v σ H Q => ∃ a x xs, v = .ref a ∧ SqT K H a (x :: xs) ∧ xs.length ≤ 10000 ∧ ∀ D, H D = none → t [x, .ref D] σ (upd H D (.lst xs)) Q
theorem pg_hd {X : Cx} {e1 e2 : Expr} {k : Nat} {pos p2 : Pos} {t : TGs} (hc : X.calm = true) (h : PGs X [e1, e2] t) (hn : (assignEach [e1, .Starred e2 p2] X.env).length = 2 := by rfl)
    (hst : (assignEach [e1, .Starred e2 p2] X.env).findIdx? (·.1) = some 1 := by rfl) (hm : (assignEach [e1, .Starred e2 p2] X.env).map (·.2) = (assignEach [e1, e2] X.env).map (·.2) := by rfl) : PG X (.Tuple [e1, .Starred e2 p2] k pos) (gHd X.K t) := by
  refine ⟨fun pins s σ H v u Q I r hw => ?_⟩
  obtain ⟨a, x, xs, e1, hq, hl, hw⟩ := hw
  subst e1
  cases r
  obtain ⟨its, rv, ht, hz⟩ := I.tuple hq
  cases rv with
  | cons r1 r2 =>
    rename_i u us
    rw [assign_Tuple]
    refine wpAny_bind (wpAny_standAt ?_)
    unfold unpack
    rw [hn, hst, hm]
    refine wpAny_bind (wpAny_holding (unpack_hd ht (I.ok.hd hc) (by rw [← r2.length]; exact hl) fun h' tk he => ?_))
    have I1 : Inv X pins σ H { s with heap := h', toks := tk } := I.kept (t' := tk) he
    have hD := I1.hok.fresh (Nat.le_refl h'.objs.size)
    have I2 := I1.laid (t' := tk) (a := h'.objs.size) (o := .lst xs) (h' := h'.push { cls := .type "list", data := .seq us.toArray }) (fun _ _ q => Heap.get?_push_of_some _ q) (Nat.le_refl _)
      ⟨by rw [sizeLine_eq]; omega, us, 0, r2, Heap.get?_push_size _ rfl⟩
    exact h.run pins _ σ _ [x, .ref h'.objs.size] _ Q I2 (.cons r1 (.cons rfl .nil)) (hw _ hD)
variable {c : Ctx} {X : Cx}
def hdT (gs : List D → Rho → Option Rho) : MT := fun d r => match d with
  | .tup (x :: l) => if noOwns l = true ∧ l.length ≤ 10000 then gs [x, .lst true l] r else none
  | _ => none
theorem z_ghd {e1 e2 : Expr} {k : Nat} {pos p2 : Pos} {vs : List Nat} {gs : List D → Rho → Option Rho} (hc : X.calm = true) (h : PGs X [e1, e2] (tGs c vs gs)) (hn : (assignEach [e1, .Starred e2 p2] X.env).length = 2 := by rfl)
    (hst : (assignEach [e1, .Starred e2 p2] X.env).findIdx? (·.1) = some 1 := by rfl) (hm : (assignEach [e1, .Starred e2 p2] X.env).map (·.2) = (assignEach [e1, e2] X.env).map (·.2) := by rfl) :
    PG X (.Tuple [e1, .Starred e2 p2] k pos) (tG c vs (hdT gs)) := pg_imp (pg_hd hc h hn hst hm) fun v σ H Q ⟨r, e, d, r1, a, w, hg, kk⟩ => by
  unfold hdT at hg
  split at hg
  · rename_i x l
    split at hg
    · rename_i hno
      obtain ⟨b, xs, e1, e2, hl, w2⟩ := w.untup
      cases xs with
      | nil => simp at hl
      | cons y ys =>
        have ll : ys.length = l.length := by simpa using hl
        refine ⟨b, y, ys, e1, SqT.of e2, by rw [ll]; exact hno.2, fun D hD => ?_⟩
        have w3 : W c.G c.B H ((y, x) :: (ys.zip l ++ (e ++ envI σ r))) := by simpa using w2
        have kc : KC c.G H ((y, x) :: (ys.zip l ++ (e ++ envI σ r))) ys l := ⟨ll, fun i q d h1 h2 => Cp.of (List.mem_cons_of_mem _ (List.mem_append_left _ (List.mem_iff_getElem?.mpr ⟨i, (List.getElem?_zip_eq_some (z := (q, d))).mpr ⟨h1, h2⟩⟩))) (noOwns_get hno.1 h2)⟩
        have w4 := newL w3 hD kc
        refine ⟨r, ys.zip l ++ e, [x, .lst true l], r1, a, rfl, ?_, hg, fun σ' H' wp a' w' => kk σ' H' wp a' (W.drops (l := ys.zip l) (by simpa [List.append_assoc] using w'))⟩
        refine w4.perm ?_
        show List.Perm _ ((y, x) :: (V.ref D, .lst true l) :: (ys.zip l ++ e ++ envI σ r))
        rw [List.append_assoc]
        exact List.Perm.swap _ _ _
    · cases hg
  · cases hg
end Z

set_option Elab.async false
set_option linter.all false
set_option maxRecDepth 100000
set_option maxHeartbeats 4000000
/-! Z18: a list comprehension with two fors. -/
namespace Z
open PySem PySem.Spec PyProof.Rows L2
variable {c : Ctx} {σ : L2.St} {H : Hp} {l : Pend} {r : Rho} {e : List It} {X : Cx} {Q : VK} {N : Ends} {nio : Nat}
theorem wipe_sub {vs : List Nat} : ∀ {us : List Nat} {σ : L2.St}, (∀ i ∈ us, i ∈ vs) → wipe (wipe σ us) vs = wipe σ vs
  | [], _, _ => rfl
  | u :: us, σ, h => by
    show wipe ((wipe σ us).set u none) vs = _
    rw [wipe_set (h u List.mem_cons_self), wipe_sub fun i hi => h i (List.mem_cons_of_mem _ hi)]
def lc2L (vs : List Nat) (g : MT) (src1 : M Src) (vs1 : List Nat) (g1 : MT) (m : M D) : List D → Rho → Option (List D × Rho)
  | [], r => some ([], r)
  | d :: ds, r => match g d r with
    | some r1 => (match src1 r1 with
      | some (.ok p1 r2) => if p1.2.length ≤ 10000 then (match lcL vs1 g1 yesM m p1.2 (wipeR r2 vs1) with
        | some (xs, r3) => (match lc2L vs g src1 vs1 g1 m ds (wipeR r3 vs) with
          | some (ys, r4) => some (xs ++ ys, r4)
          | none => none)
        | none => none) else none
      | _ => none)
    | none => none
def lc2M (vs : List Nat) (src : M Src) (g : MT) (src1 : M Src) (vs1 : List Nat) (g1 : MT) (m : M D) : M D := bnd src fun p r => match lc2L vs g src1 vs1 g1 m p.2 (wipeR r vs) with
  | some (xs, r1) => if p.2.length ≤ 900 then some (.ok (.lst true xs) r1) else none
  | none => none
theorem lc2_red {src src1 : M Src} {g g1 : MT} {m : M D} {vs vs1 : List Nat} (hs : ∀ i ∈ vs1, i ∈ vs) (hv : ∀ p ∈ c.ios, p.1 ∉ vs) (hv1 : ∀ p ∈ c.ios, p.1 ∉ vs1) (h : tm c (lc2M vs src g src1 vs1 g1 m) σ H Q) :
    tLc2 (ti c src) (tG c vs g) (tmB c yesM) (ti c src1) (tG c vs1 g1) (tmB c yesM) (tm c m) vs vs1 σ H Q := by
  obtain ⟨r, e, x, n, hx, fin⟩ := h
  rcases bnd_cases hx with ⟨p, r1, h1, h2⟩ | ⟨C, ns, ds, r1, h1, rfl⟩
  · refine ⟨r, e, _, n, h1, fun J us H1 hl a w jk Dd hD => ?_⟩
    try dsimp only at h2
    split at h2
    · rename_i xs r9 hlc
      split at h2
      · rename_i hz
        cases h2
        have wD : W c.G c.B (upd H1 Dd (.lst [])) ((.ref Dd, .lst true []) :: (us.zip p.1 ++ (e ++ envI σ r1))) := newL w hD .nil
        have wD' : W c.G c.B (upd H1 Dd (.lst [])) (((.ref Dd, .lst true []) :: (us.zip p.1 ++ e)) ++ envI σ r1) := by
          show W c.G c.B _ ((V.ref Dd, D.lst true []) :: ((us.zip p.1 ++ e) ++ envI σ r1))
          rw [List.append_assoc]; exact wD
        refine ⟨fun i m' H => m' = p.2.length - i ∧ i ≤ p.2.length ∧ ∃ r acc rest, Alx c (wipe σ vs) r ∧ envI (wipe σ vs) r = envI σ r ∧ W c.G c.B H ((.ref Dd, .lst true acc) :: (us.zip p.1 ++ (e ++ envI (wipe σ vs) r))) ∧ lc2L vs g src1 vs1 g1 m (p.2.drop i) r = some (rest, r9) ∧ xs = acc ++ rest ∧ acc.length ≤ i * 10000,
          ⟨p.2.length, rfl, Nat.zero_le _, wipeR r1 vs, [], xs, a.wipe hv, env_wipe, ?_, hlc, rfl, by simp⟩, ?_⟩
        · have := W.wipe (vs := vs) wD' a.al
          simpa [List.append_assoc] using this
        · rintro i m' H ⟨rfl, hi, r, acc, rest, a, ew, w, hf, ex, hacc⟩
          have sub : ∀ q ∈ us.zip p.1, q ∈ (V.ref Dd, D.lst true acc) :: (us.zip p.1 ++ (e ++ envI (wipe σ vs) r)) := fun q hq => List.mem_cons_of_mem _ (List.mem_append_left _ hq)
          by_cases hlt : i < p.2.length
          · refine .inr ⟨jk.go i H _ w sub hlt, fun H' => ∃ r acc rest, Alx c (wipe σ vs) r ∧ envI (wipe σ vs) r = envI σ r ∧ W c.G c.B H' ((.ref Dd, .lst true acc) :: (us.zip p.1 ++ (e ++ envI (wipe σ vs) r))) ∧ lc2L vs g src1 vs1 g1 m (p.2.drop (i + 1)) r = some (rest, r9) ∧ xs = acc ++ rest ∧ acc.length ≤ (i + 1) * 10000,
              fun H' q => ⟨p.2.length - (i + 1), by omega, rfl, hlt, q⟩, fun xv H' hy => ?_⟩
            rw [List.drop_eq_getElem_cons hlt] at hf
            have w2 := jk.yld i H _ xv H' p.2[i] w sub (List.getElem?_eq_getElem hlt) hy
            unfold lc2L at hf
            split at hf
            · rename_i r2 hg2
              refine ⟨r, (.ref Dd, .lst true acc) :: (us.zip p.1 ++ e), p.2[i], r2, a, by simpa [List.append_assoc] using w2, hg2, fun σ2 H2 wp a2 w3 => ⟨by rw [wp, wipe_idem], ?_⟩⟩
              have wp2 : wipe σ2 vs = wipe σ vs := by rw [wp, wipe_idem]
              refine ⟨r2, (.ref Dd, .lst true acc) :: (us.zip p.1 ++ e), _, ⟨a2, Vok.nil, w3⟩, rfl, fun H3 a3 w4 => iteT ?_⟩
              split at hf
              · rename_i p1 r3 hsrc
                split at hf
                · rename_i hz1
                  split at hf
                  · rename_i xs1 r8 hin
                    split at hf
                    · rename_i ys r5 hrec
                      cases hf
                      refine ⟨r2, (.ref Dd, .lst true acc) :: (us.zip p.1 ++ e), _, ⟨a3, Vok.nil, w4⟩, hsrc, fun J1 us1 H4 hl1 a4 w5 jk1 => ?_⟩
                      have w5' : W c.G c.B H4 (((.ref Dd, .lst true acc) :: (us1.zip p1.1 ++ (us.zip p.1 ++ e))) ++ envI σ2 r3) := by
                        refine w5.perm ?_
                        simp only [List.cons_append, List.append_assoc]
                        exact List.perm_middle
                      refine ⟨fun j k H => k = p1.2.length - j ∧ j ≤ p1.2.length ∧ ∃ r acc1 rest1, Alx c (wipe σ2 vs1) r ∧ envI (wipe σ2 vs1) r = envI σ2 r ∧ W c.G c.B H ((.ref Dd, .lst true (acc ++ acc1)) :: (us1.zip p1.1 ++ ((us.zip p.1 ++ e) ++ envI (wipe σ2 vs1) r))) ∧ lcL vs1 g1 yesM m (p1.2.drop j) r = some (rest1, r8) ∧ xs1 = acc1 ++ rest1 ∧ acc1.length ≤ j,
                        ⟨p1.2.length, rfl, Nat.zero_le _, wipeR r3 vs1, [], xs1, a4.wipe hv1, env_wipe, ?_, hin, rfl, Nat.le_refl _⟩, ?_⟩
                      · have := W.wipe (vs := vs1) w5' a4.al
                        simpa [List.append_assoc] using this
                      · rintro j k H ⟨rfl, hj, rj, acc1, rest1, aj, ewj, wj, hfj, exj, haccj⟩
                        have subj : ∀ q ∈ us1.zip p1.1, q ∈ (V.ref Dd, D.lst true (acc ++ acc1)) :: (us1.zip p1.1 ++ ((us.zip p.1 ++ e) ++ envI (wipe σ2 vs1) rj)) := fun q hq => List.mem_cons_of_mem _ (List.mem_append_left _ hq)
                        by_cases hlj : j < p1.2.length
                        · refine .inr ⟨jk1.go j H _ wj subj hlj, fun H' => ∃ r acc1 rest1, Alx c (wipe σ2 vs1) r ∧ envI (wipe σ2 vs1) r = envI σ2 r ∧ W c.G c.B H' ((.ref Dd, .lst true (acc ++ acc1)) :: (us1.zip p1.1 ++ ((us.zip p.1 ++ e) ++ envI (wipe σ2 vs1) r))) ∧ lcL vs1 g1 yesM m (p1.2.drop (j + 1)) r = some (rest1, r8) ∧ xs1 = acc1 ++ rest1 ∧ acc1.length ≤ j + 1,
                            fun H' q => ⟨p1.2.length - (j + 1), by omega, rfl, hlj, q⟩, fun xw H' hyj => ?_⟩
                          rw [List.drop_eq_getElem_cons hlj] at hfj
                          have w6 := jk1.yld j H _ xw H' p1.2[j] wj subj (List.getElem?_eq_getElem hlj) hyj
                          unfold lcL at hfj
                          split at hfj
                          · rename_i q2 hgj
                            refine ⟨rj, (.ref Dd, .lst true (acc ++ acc1)) :: (us1.zip p1.1 ++ (us.zip p.1 ++ e)), p1.2[j], q2, aj, by simpa [List.append_assoc] using w6, hgj, fun σ3 H5 wpj a5 w7 => ⟨by rw [wpj, wipe_idem], ?_⟩⟩
                            have wpj2 : wipe σ3 vs1 = wipe σ2 vs1 := by rw [wpj, wipe_idem]
                            refine ⟨q2, (.ref Dd, .lst true (acc ++ acc1)) :: (us1.zip p1.1 ++ (us.zip p.1 ++ e)), _, ⟨a5, Vok.nil, w7⟩, rfl, fun H6 a6 w8 => iteT ?_⟩
                            simp only [yesM, ret] at hfj
                            split at hfj
                            · rename_i y r4 hm
                              refine ⟨q2, (.ref Dd, .lst true (acc ++ acc1)) :: (us1.zip p1.1 ++ (us.zip p.1 ++ e)), _, ⟨a6, Vok.nil, w8⟩, hm, fun yv H7 a7 w9 => ?_⟩
                              split at hfj
                              · rename_i rest' r6 hrecj
                                cases hfj
                                have w10 : W c.G c.B H7 ((.ref Dd, .lst true (acc ++ acc1)) :: ((yv, y) :: ((us1.zip p1.1 ++ (us.zip p.1 ++ e)) ++ envI σ3 r4))) := w9.perm (List.Perm.swap _ _ _)
                                obtain ⟨b, zs, e1, e2, ln, wo⟩ := w10.openL
                                cases e1
                                have w11 : W c.G c.B (upd H7 Dd (.lst (zs ++ [yv]))) ((.ref Dd, .lst true (acc ++ acc1 ++ [y])) :: ((us1.zip p1.1 ++ (us.zip p.1 ++ e)) ++ envI σ3 r4)) := Wo.closeL (by rw [zip_app1 ln]; simpa [List.append_assoc] using wo) (by simp [ln]; omega)
                                refine ⟨zs, e2, ?_, wipeR r4 vs1, acc1 ++ [y], rest', by rw [← wpj2]; exact a7.wipe hv1, env_wipe, ?_, hrecj, by rw [exj]; simp, by simp; omega⟩
                                · rw [ln]
                                  refine Nat.lt_of_lt_of_le (show (acc ++ acc1).length < 10000000 by
                                    have : i * 10000 ≤ 899 * 10000 := Nat.mul_le_mul_right _ (by omega)
                                    simp; omega) (lim_ok (Nat.le_refl _))
                                · have := W.wipe (g := (.ref Dd, .lst true (acc ++ acc1 ++ [y])) :: (us1.zip p1.1 ++ (us.zip p.1 ++ e))) (vs := vs1) w11 a7.al
                                  rw [wpj2] at this
                                  simpa [List.append_assoc] using this
                              · cases hfj
                            · cases hfj
                          · cases hfj
                        · have ej : j = p1.2.length := by omega
                          subst ej
                          rw [List.drop_length] at hfj
                          cases hfj
                          rw [List.append_nil] at exj
                          subst exj
                          refine .inl ⟨jk1.stop _ H _ wj subj (Nat.le_refl _), wipeR r8 vs, acc ++ xs1, ys, ?_, env_wipe, ?_, hrec, by rw [ex]; simp, ?_⟩
                          · have := aj.wipe hv
                            rw [wipe_sub hs, wp2] at this
                            exact this
                          · have w12 : W c.G c.B H (((.ref Dd, .lst true (acc ++ xs1)) :: (us.zip p.1 ++ e)) ++ envI (wipe σ2 vs1) r8) := W.drops (l := us1.zip p1.1) (wj.perm List.perm_middle.symm)
                            have := W.wipe (vs := vs) w12 aj.al
                            rw [wipe_sub hs, wp2] at this
                            simpa [List.append_assoc] using this
                          · rw [Nat.succ_mul, List.length_append]
                            omega
                    · cases hf
                  · cases hf
                · cases hf
              · cases hf
            · cases hf
          · have ei : i = p.2.length := by omega
            subst ei
            rw [List.drop_length] at hf
            cases hf
            rw [List.append_nil] at ex
            subst ex
            refine .inl ⟨jk.stop _ H _ w sub (Nat.le_refl _), fin _ H (a.unwipe hv) ?_⟩
            rw [ew] at w
            exact W.drops (l := us.zip p.1) (w.perm List.perm_middle.symm)
      · cases h2
    · cases h2
  · exact ⟨r, e, _, n, h1, fin⟩
theorem z_lc2 {elt tg iter tg1 iter1 : Expr} {scope : Scope} {pos : Pos} {src src1 : M Src} {g g1 : MT} {me : M D} (own : List (Str × Nat)) (vs1 : List Nat) (hio : ∀ p ∈ c.ios, p.1 < nio) (hc : X.calm = true) (hN : X.N.Nodup) (hi : PI X tg iter (ti c src))
    (hg : ∀ (s : Shared) (H : Hp) (C : Addr) (cl : List (Str × Addr)) (fp : List Addr), PG (X.blk s H scope (compEnvC scope cl C X.env) fp) tg (tG c (own.map (·.2)) g))
    (hi1 : ∀ (s : Shared) (H : Hp) (C : Addr) (cl : List (Str × Addr)) (fp : List Addr), PI (X.blk s H scope (compEnvC scope cl C X.env) fp) tg1 iter1 (ti c src1))
    (hg1 : ∀ (s : Shared) (H : Hp) (C : Addr) (cl : List (Str × Addr)) (fp : List Addr), PG (X.blk s H scope (compEnvC scope cl C X.env) fp) tg1 (tG c vs1 g1))
    (he : ∀ (s : Shared) (H : Hp) (C : Addr) (cl : List (Str × Addr)) (fp : List Addr), PE (X.blk s H scope (compEnvC scope cl C X.env) fp) elt (tm c me))
    (ok : BlkOk X.N X.env.scope scope own := by exact blkOk_by (by rfl)) (hv : ∀ i ∈ own.map (·.2), nio ≤ i := by decide) (hs1 : ∀ i ∈ vs1, i ∈ own.map (·.2) := by decide)
    (hs : ∀ x, foldedSetIterable iter X.env x = pure x := by intro _; rfl) (hs2 : ∀ env x, foldedSetIterable iter1 env x = pure x := by intro _ _; rfl) :
    PE X (.ListComp elt [⟨tg, iter, [], 0⟩, ⟨tg1, iter1, [], 0⟩] scope pos) (tm c (lc2M (own.map (·.2)) src g src1 vs1 g1 me)) :=
  pe_imp (pe_lc2 hc hN hi ok hs1 hg (fun _ _ _ _ _ => z_ptsnil) hi1 hg1 (fun _ _ _ _ _ => z_ptsnil) he hs hs2) fun σ H Q => lc2_red hs1 (fun p hp hm => by have := hio p hp; have := hv _ hm; omega) (fun p hp hm => by have := hio p hp; have := hv _ (hs1 _ hm); omega)
end Z

set_option Elab.async false
set_option linter.all false
set_option maxRecDepth 100000
set_option maxHeartbeats 4000000
/-! Z19: dict comprehensions. -/
namespace Z
open PySem PySem.Spec PyProof.Rows L2
variable {c : Ctx} {σ : L2.St} {H : Hp} {l : Pend} {r : Rho} {e : List It} {X : Cx} {Q : VK} {N : Ends} {nio : Nat}
/-- d[k] = x, k an int or a text -/
theorem put_k {G : Cfg} {H : Hp} {a : Addr} {ks : List Key} {ks' : KK} {l l' : List D} {xs : List V} {x k : D} {vv : V} {key : Key} (hk : keyD k = some key) (e : DHo (H a) (.k ks) xs) (ln : xs.length = l.length) (h : putD (.k ks) l k x = some (ks', l')) :
    ∃ kvs xs', H a = some (.dK kvs) ∧ kvs.length < sizeLine ∧ DHo (some (.dK (putK kvs key vv))) ks' xs' ∧ xs'.length = l'.length ∧ (∃ ks2, ks' = .k ks2) ∧ ((∃ j, l' = l.set j x ∧ xs' = xs.set j vv ∧ j < l.length) ∨ (l' = l ++ [x] ∧ xs' = xs ++ [vv])) := by
  unfold putD at h
  rcases e with ⟨kvs, e, e1, e2, nd⟩ | ⟨kvs, e, e1, e2, nd⟩
  · cases e1
    have hp : posD (.k (kvs.map (·.1))) k = some (posK (kvs.map (·.1)) key) := by simp [posD, hk]
    rw [hp] at h
    split at h
    · rename_i hz
      have line : kvs.length < sizeLine := by rw [sizeLine_eq]; simp [KK.len] at hz; omega
      cases hj : posK (kvs.map (·.1)) key with
      | some j =>
        rw [hj] at h
        dsimp only at h
        split at h
        · rename_i jl
          cases h
          obtain ⟨p1, p2⟩ := put_some (v := vv) nd hj
          exact ⟨kvs, xs.set j vv, e, line, .inl ⟨_, rfl, by rw [p1], by rw [p2, e2], by rw [p1]; exact nd⟩, by simp [ln], ⟨_, rfl⟩, .inl ⟨j, rfl, rfl, jl⟩⟩
        · cases h
      | none =>
        rw [hj] at h
        dsimp only at h
        obtain ⟨ks2, ha, h2⟩ := Option.map_eq_some_iff.mp h
        cases h2
        have ea : ks' = .k (kvs.map (·.1) ++ [key]) := by simpa [addKK, hk] using ha.symm
        subst ea
        obtain ⟨p1, p2⟩ := put_none (v := vv) hj
        refine ⟨kvs, xs ++ [vv], e, line, .inl ⟨_, rfl, by rw [p1], by rw [p2, e2], ?_⟩, by simp [ln], ⟨_, rfl⟩, .inr ⟨rfl, rfl⟩⟩
        rw [p1]
        exact List.nodup_append.mpr ⟨nd, by simp, fun a ha b hb e => by rw [List.mem_singleton.mp hb] at e; exact posK_none hj (e ▸ ha)⟩
    · cases h
  · cases e1
def isK : KK → Bool
  | .k _ => true
  | .t _ => false
def dcL (vs : List Nat) (g : MT) (mk mv : M D) : List D → Rho → KK → List D → Option (KK × List D × Rho)
  | [], r, ks, l => some (ks, l, r)
  | d :: ds, r, ks, l => match g d r with
    | some r1 => (match mk r1 with
      | some (.ok k r2) => if (keyD k).isSome = true then (match mv r2 with
        | some (.ok x r3) => (match putD ks l k x with
          | some p => dcL vs g mk mv ds (wipeR r3 vs) p.1 p.2
          | none => none)
        | _ => none) else none
      | _ => none)
    | none => none
def dcM (vs : List Nat) (src : M Src) (g : MT) (mk mv : M D) : M D := bnd src fun p r => match dcL vs g mk mv p.2 (wipeR r vs) (.k []) [] with
  | some (ks, l, r1) => some (.ok (.dct true ks l) r1)
  | none => none
theorem dc_red {src : M Src} {g : MT} {mk mv : M D} {vs : List Nat} (hv : ∀ p ∈ c.ios, p.1 ∉ vs) (h : tm c (dcM vs src g mk mv) σ H Q) : tDc (ti c src) (tG c vs g) (tmB c yesM) (tm c mk) (tm c mv) vs σ H Q := by
  obtain ⟨r, e, x, n, hx, fin⟩ := h
  rcases bnd_cases hx with ⟨p, r1, h1, h2⟩ | ⟨C, ns, ds, r1, h1, rfl⟩
  · refine ⟨r, e, _, n, h1, fun J us H1 hl a w jk Dd hD => ?_⟩
    try dsimp only at h2
    split at h2
    · rename_i ksF lF r9 hlc
      cases h2
      have wD : W c.G c.B (upd H1 Dd (.dK [])) ((.ref Dd, .dct true (.k []) []) :: (us.zip p.1 ++ (e ++ envI σ r1))) := (w.new hD).closeD (xs := []) (l := []) rfl (.inl ⟨[], rfl, rfl, rfl, List.nodup_nil⟩)
      have wD' : W c.G c.B (upd H1 Dd (.dK [])) (((.ref Dd, .dct true (.k []) []) :: (us.zip p.1 ++ e)) ++ envI σ r1) := by
        show W c.G c.B _ ((V.ref Dd, D.dct true (.k []) []) :: ((us.zip p.1 ++ e) ++ envI σ r1))
        rw [List.append_assoc]; exact wD
      refine ⟨fun i m' H => m' = p.2.length - i ∧ i ≤ p.2.length ∧ ∃ r ks l, Alx c (wipe σ vs) r ∧ envI (wipe σ vs) r = envI σ r ∧ W c.G c.B H ((.ref Dd, .dct true (.k ks) l) :: (us.zip p.1 ++ (e ++ envI (wipe σ vs) r))) ∧ dcL vs g mk mv (p.2.drop i) r (.k ks) l = some (ksF, lF, r9),
        ⟨p.2.length, rfl, Nat.zero_le _, wipeR r1 vs, [], [], a.wipe hv, env_wipe, ?_, hlc⟩, ?_⟩
      · have := W.wipe (vs := vs) wD' a.al
        simpa [List.append_assoc] using this
      · rintro i m' H ⟨rfl, hi, r, ks, l, a, ew, w, hf⟩
        have sub : ∀ q ∈ us.zip p.1, q ∈ (V.ref Dd, D.dct true (.k ks) l) :: (us.zip p.1 ++ (e ++ envI (wipe σ vs) r)) := fun q hq => List.mem_cons_of_mem _ (List.mem_append_left _ hq)
        by_cases hlt : i < p.2.length
        · refine .inr ⟨jk.go i H _ w sub hlt, fun H' => ∃ r ks l, Alx c (wipe σ vs) r ∧ envI (wipe σ vs) r = envI σ r ∧ W c.G c.B H' ((.ref Dd, .dct true (.k ks) l) :: (us.zip p.1 ++ (e ++ envI (wipe σ vs) r))) ∧ dcL vs g mk mv (p.2.drop (i + 1)) r (.k ks) l = some (ksF, lF, r9),
            fun H' q => ⟨p.2.length - (i + 1), by omega, rfl, hlt, q⟩, fun xv H' hy => ?_⟩
          rw [List.drop_eq_getElem_cons hlt] at hf
          have w2 := jk.yld i H _ xv H' p.2[i] w sub (List.getElem?_eq_getElem hlt) hy
          unfold dcL at hf
          split at hf
          · rename_i r2 hg2
            refine ⟨r, (.ref Dd, .dct true (.k ks) l) :: (us.zip p.1 ++ e), p.2[i], r2, a, by simpa [List.append_assoc] using w2, hg2, fun σ2 H2 wp a2 w3 => ⟨by rw [wp, wipe_idem], ?_⟩⟩
            have wp2 : wipe σ2 vs = wipe σ vs := by rw [wp, wipe_idem]
            refine ⟨r2, (.ref Dd, .dct true (.k ks) l) :: (us.zip p.1 ++ e), _, ⟨a2, Vok.nil, w3⟩, rfl, fun H3 a3 w4 => iteT ?_⟩
            split at hf
            · rename_i kd r3 hmk
              split at hf
              · rename_i hks
                obtain ⟨key, hkey⟩ := Option.isSome_iff_exists.mp hks
                split at hf
                · rename_i y r4 hmv
                  split at hf
                  · rename_i pp hput
                    refine ⟨r2, (.ref Dd, .dct true (.k ks) l) :: (us.zip p.1 ++ e), _, ⟨a3, Vok.nil, w4⟩, hmk, fun kv H4 a4 w5 => ?_⟩
                    have ek := keyD_V w5 List.mem_cons_self hkey
                    refine ⟨r3, (.ref Dd, .dct true (.k ks) l) :: (us.zip p.1 ++ e), _, ⟨a4, Vok.nil, w5.drop⟩, hmv, fun yv H5 a5 w6 => ?_⟩
                    have w7 : W c.G c.B H5 ((.ref Dd, .dct true (.k ks) l) :: ((yv, y) :: ((us.zip p.1 ++ e) ++ envI σ2 r4))) := w6.perm (List.Perm.swap _ _ _)
                    obtain ⟨b, zs, e1, e2, ln, wo⟩ := w7.openD
                    cases e1
                    obtain ⟨ks', l'⟩ := pp
                    obtain ⟨kvs, xs', q1, q2, q3, q4, ⟨ks2, rfl⟩, q5⟩ := put_k (G := c.G) (vv := yv) hkey e2 ln hput
                    have w8 := W.setD (j := 0) wo ln q3 q4 q5
                    refine ⟨kvs, key, ek, q1, q2, wipeR r4 vs, ks2, l', by rw [← wp2]; exact a5.wipe hv, env_wipe, ?_, hf⟩
                    have := W.wipe (g := (.ref Dd, .dct true (.k ks2) l') :: (us.zip p.1 ++ e)) (vs := vs) w8 a5.al
                    rw [wp2] at this
                    simpa [List.append_assoc] using this
                  · cases hf
                · cases hf
              · cases hf
            · cases hf
          · cases hf
        · have ei : i = p.2.length := by omega
          subst ei
          rw [List.drop_length] at hf
          cases hf
          refine .inl ⟨jk.stop _ H _ w sub (Nat.le_refl _), fin _ H (a.unwipe hv) ?_⟩
          rw [ew] at w
          exact W.drops (l := us.zip p.1) (w.perm List.perm_middle.symm)
    · cases h2
  · exact ⟨r, e, _, n, h1, fin⟩
theorem z_dc {kx vx tg iter : Expr} {scope : Scope} {pos : Pos} {src : M Src} {g : MT} {mk mv : M D} (own : List (Str × Nat)) (hio : ∀ p ∈ c.ios, p.1 < nio) (hc : X.calm = true) (hN : X.N.Nodup) (hi : PI X tg iter (ti c src))
    (hg : ∀ (s : Shared) (H : Hp) (C : Addr) (cl : List (Str × Addr)) (fp : List Addr), PG (X.blk s H scope (compEnvC scope cl C X.env) fp) tg (tG c (own.map (·.2)) g))
    (hk : ∀ (s : Shared) (H : Hp) (C : Addr) (cl : List (Str × Addr)) (fp : List Addr), PE (X.blk s H scope (compEnvC scope cl C X.env) fp) kx (tm c mk))
    (he : ∀ (s : Shared) (H : Hp) (C : Addr) (cl : List (Str × Addr)) (fp : List Addr), PE (X.blk s H scope (compEnvC scope cl C X.env) fp) vx (tm c mv))
    (ok : BlkOk X.N X.env.scope scope own := by exact blkOk_by (by rfl)) (hv : ∀ i ∈ own.map (·.2), nio ≤ i := by decide) (hs : ∀ x, foldedSetIterable iter X.env x = pure x := by intro _; rfl) :
    PE X (.DictComp kx vx [⟨tg, iter, [], 0⟩] scope pos) (tm c (dcM (own.map (·.2)) src g mk mv)) :=
  pe_imp (pe_dc hc hN hi ok hg (fun _ _ _ _ _ => z_ptsnil) hk he hs) fun σ H Q => dc_red fun p hp hm => by have := hio p hp; have := hv _ hm; omega
end Z

set_option Elab.async false
set_option linter.all false
set_option maxRecDepth 100000
set_option maxHeartbeats 4000000
/-! Z20: a dict's items walked: it is locked meanwhile. -/
namespace Z
open PySem PySem.Spec PyProof.Rows L2
variable {c : Ctx} {σ : L2.St} {H : Hp} {l : Pend} {r : Rho} {e : List It} {X : Cx} {Q : VK} {N : Ends} {nio : Nat} {G : Cfg} {B : Bs} {g : List It} {F : Addr → Prop} {a : Addr} {o : Obj} {kvs : List (Key × V)}
mutual
theorem Tr.lock (hu : H a = some (.dK kvs)) : ∀ {d : D} {v : V} {O : List Addr}, a ∉ O → Tr G H F d v O → Tr G (upd H a (.frz o (.dK kvs))) F d v O
  | .non, _, _, _, h => by simp only [Tr] at h ⊢; exact h
  | .bl _, _, _, _, h => by simp only [Tr] at h ⊢; exact h
  | .int _, _, _, _, h => by simp only [Tr] at h ⊢; exact h
  | .str _, _, _, _, h => by simp only [Tr] at h ⊢; exact h
  | .ty _, _, _, _, h => by simp only [Tr] at h ⊢; exact h
  | .cls _, _, _, _, h => by simp only [Tr] at h ⊢; exact h
  | .xcp C ns l, _, _, hO, h => by
    simp only [Tr] at h ⊢
    obtain ⟨b, d, xs, e, e1, e2, e3, h⟩ := h
    refine ⟨b, d, xs, e, by rw [upd_ne (fun z => by rw [z, hu] at e1; unfold Xo at e1; cases e1)]; exact e1, e2.imp id fun ⟨dx, q1, q2⟩ => ⟨dx, q1, by rw [upd_ne (fun z => by rw [z, hu] at q2; cases q2)]; exact q2⟩, e3, TrL.lock hu hO h⟩
  | .scr _, _, _, _, h => by
    simp only [Tr] at h ⊢
    obtain ⟨b, e, h, e2⟩ := h
    refine ⟨b, e, ?_, e2⟩
    rcases h with ⟨o', h⟩ | h
    · refine .inl ⟨o', ?_⟩
      rw [upd_ne (fun z => by rw [z, hu] at h; cases h)]
      exact h
    · exact .inr h
  | .tup l, _, _, hO, h => by
    simp only [Tr] at h ⊢
    obtain ⟨b, xs, e, e1, h⟩ := h
    exact ⟨b, xs, e, by rw [upd_ne (fun z => by rw [z, hu] at e1; cases e1)]; exact e1, TrL.lock hu hO h⟩
  | .lst true l, _, _, hO, h => by
    simp only [Tr] at h ⊢
    obtain ⟨b, xs, O', e, e1, h, e2⟩ := h
    subst e2
    exact ⟨b, xs, O', e, by rw [upd_ne (fun z => by rw [z, hu] at e1; cases e1)]; exact e1, TrL.lock hu (fun z => hO (List.mem_cons_of_mem _ z)) h, rfl⟩
  | .lst false l, _, _, hO, h => by
    simp only [Tr] at h ⊢
    obtain ⟨b, xs, e, e1, f, h, e2⟩ := h
    exact ⟨b, xs, e, by rw [upd_ne (fun z => by rw [z, hu] at e1; cases e1)]; exact e1, f, TrL.lock hu (fun z => nomatch z) h, e2⟩
  | .dct true ks l, _, _, hO, h => by
    simp only [Tr] at h ⊢
    obtain ⟨b, xs, O', e, e1, h, e2⟩ := h
    subst e2
    exact ⟨b, xs, O', e, by rw [upd_ne (fun z => hO (by rw [← z]; exact List.mem_cons_self))]; exact e1, TrL.lock hu (fun z => hO (List.mem_cons_of_mem _ z)) h, rfl⟩
  | .dct false ks l, _, _, hO, h => by
    simp only [Tr] at h ⊢
    obtain ⟨b, xs, e, e1, f, h, e2⟩ := h
    refine ⟨b, xs, e, ?_, f, TrL.lock hu (fun z => nomatch z) h, e2⟩
    by_cases hb : b = a
    · subst hb
      rcases e1 with e1 | ⟨o', u', e0, _⟩
      · rw [hu] at e1
        exact .inr ⟨o, _, upd_same, e1⟩
      · rw [hu] at e0; cases e0
    · rw [upd_ne hb]; exact e1
  | .ins true C ns l, _, _, hO, h => by
    simp only [Tr] at h ⊢
    obtain ⟨b, xs, O', e, ⟨dx, fs, q1, q2, q3⟩, h, e2⟩ := h
    subst e2
    exact ⟨b, xs, O', e, ⟨dx, fs, by rw [upd_ne (fun z => by rw [z, hu] at q1; cases q1)]; exact q1, q2, q3⟩, TrL.lock hu (fun z => hO (List.mem_cons_of_mem _ z)) h, rfl⟩
  | .ins false C ns l, _, _, hO, h => by
    simp only [Tr] at h ⊢
    obtain ⟨b, xs, e, ⟨dx, fs, q1, q2, q3⟩, f, h, e2⟩ := h
    exact ⟨b, xs, e, ⟨dx, fs, by rw [upd_ne (fun z => by rw [z, hu] at q1; cases q1)]; exact q1, q2, q3⟩, f, TrL.lock hu (fun z => nomatch z) h, e2⟩
theorem TrL.lock (hu : H a = some (.dK kvs)) : ∀ {l : List D} {xs : List V} {O : List Addr}, a ∉ O → TrL G H F l xs O → TrL G (upd H a (.frz o (.dK kvs))) F l xs O
  | [], _, _, _, h => by simp only [TrL] at h ⊢; exact h
  | d :: l, _, _, hO, h => by
    simp only [TrL] at h ⊢
    obtain ⟨x, ys, O1, O2, e, h1, h2, e2⟩ := h
    subst e2
    exact ⟨x, ys, O1, O2, e, Tr.lock hu (fun z => hO (List.mem_append_left _ z)) h1, TrL.lock hu (fun z => hO (List.mem_append_right _ z)) h2, rfl⟩
end
mutual
theorem Tr.unlock (hu : H a = some (.frz o (.dK kvs))) : ∀ {d : D} {v : V} {O : List Addr}, Tr G H F d v O → Tr G (upd H a (.dK kvs)) F d v O
  | .non, _, _, h => by simp only [Tr] at h ⊢; exact h
  | .bl _, _, _, h => by simp only [Tr] at h ⊢; exact h
  | .int _, _, _, h => by simp only [Tr] at h ⊢; exact h
  | .str _, _, _, h => by simp only [Tr] at h ⊢; exact h
  | .ty _, _, _, h => by simp only [Tr] at h ⊢; exact h
  | .cls _, _, _, h => by simp only [Tr] at h ⊢; exact h
  | .xcp C ns l, _, _, h => by
    simp only [Tr] at h ⊢
    obtain ⟨b, d, xs, e, e1, e2, e3, h⟩ := h
    refine ⟨b, d, xs, e, by rw [upd_ne (fun z => by rw [z, hu] at e1; unfold Xo at e1; cases e1)]; exact e1, e2.imp id fun ⟨dx, q1, q2⟩ => ⟨dx, q1, by rw [upd_ne (fun z => by rw [z, hu] at q2; cases q2)]; exact q2⟩, e3, TrL.unlock hu h⟩
  | .scr _, _, _, h => by
    simp only [Tr] at h ⊢
    obtain ⟨b, e, h, e2⟩ := h
    refine ⟨b, e, ?_, e2⟩
    rcases h with ⟨o', h⟩ | h
    · refine .inl ⟨o', ?_⟩
      rw [upd_ne (fun z => by rw [z, hu] at h; cases h)]
      exact h
    · exact .inr h
  | .tup l, _, _, h => by
    simp only [Tr] at h ⊢
    obtain ⟨b, xs, e, e1, h⟩ := h
    exact ⟨b, xs, e, by rw [upd_ne (fun z => by rw [z, hu] at e1; cases e1)]; exact e1, TrL.unlock hu h⟩
  | .lst true l, _, _, h => by
    simp only [Tr] at h ⊢
    obtain ⟨b, xs, O', e, e1, h, e2⟩ := h
    exact ⟨b, xs, O', e, by rw [upd_ne (fun z => by rw [z, hu] at e1; cases e1)]; exact e1, TrL.unlock hu h, e2⟩
  | .lst false l, _, _, h => by
    simp only [Tr] at h ⊢
    obtain ⟨b, xs, e, e1, f, h, e2⟩ := h
    exact ⟨b, xs, e, by rw [upd_ne (fun z => by rw [z, hu] at e1; cases e1)]; exact e1, f, TrL.unlock hu h, e2⟩
  | .dct true ks l, _, _, h => by
    simp only [Tr] at h ⊢
    obtain ⟨b, xs, O', e, e1, h, e2⟩ := h
    exact ⟨b, xs, O', e, by rw [upd_ne (fun z => by rw [z, hu] at e1; rcases e1 with ⟨_, e1, _⟩ | ⟨_, e1, _⟩ <;> cases e1)]; exact e1, TrL.unlock hu h, e2⟩
  | .dct false ks l, _, _, h => by
    simp only [Tr] at h ⊢
    obtain ⟨b, xs, e, e1, f, h, e2⟩ := h
    refine ⟨b, xs, e, ?_, f, TrL.unlock hu h, e2⟩
    by_cases hb : b = a
    · subst hb
      rcases e1 with e1 | ⟨o', u', e0, e1⟩
      · rw [hu] at e1
        rcases e1 with ⟨_, e1, _⟩ | ⟨_, e1, _⟩ <;> cases e1
      · rw [hu] at e0; cases e0
        exact .inl (by rw [upd_same]; exact e1)
    · rw [upd_ne hb]; exact e1
  | .ins true C ns l, _, _, h => by
    simp only [Tr] at h ⊢
    obtain ⟨b, xs, O', e, ⟨dx, fs, q1, q2, q3⟩, h, e2⟩ := h
    exact ⟨b, xs, O', e, ⟨dx, fs, by rw [upd_ne (fun z => by rw [z, hu] at q1; cases q1)]; exact q1, q2, q3⟩, TrL.unlock hu h, e2⟩
  | .ins false C ns l, _, _, h => by
    simp only [Tr] at h ⊢
    obtain ⟨b, xs, e, ⟨dx, fs, q1, q2, q3⟩, f, h, e2⟩ := h
    exact ⟨b, xs, e, ⟨dx, fs, by rw [upd_ne (fun z => by rw [z, hu] at q1; cases q1)]; exact q1, q2, q3⟩, f, TrL.unlock hu h, e2⟩
theorem TrL.unlock (hu : H a = some (.frz o (.dK kvs))) : ∀ {l : List D} {xs : List V} {O : List Addr}, TrL G H F l xs O → TrL G (upd H a (.dK kvs)) F l xs O
  | [], _, _, h => by simp only [TrL] at h ⊢; exact h
  | d :: l, _, _, h => by
    simp only [TrL] at h ⊢
    obtain ⟨x, ys, O1, O2, e, h1, h2, e2⟩ := h
    exact ⟨x, ys, O1, O2, e, Tr.unlock hu h1, TrL.unlock hu h2, e2⟩
end
theorem Own.lock (hu : H a = some (.dK kvs)) : ∀ {g : List It} {O : List Addr}, a ∉ O → Own G H F g O → Own G (upd H a (.frz o (.dK kvs))) F g O
  | [], _, _, h => h
  | p :: g, _, hO, ⟨O1, O2, h1, h2, e⟩ => by
    subst e
    exact ⟨O1, O2, Tr.lock hu (fun z => hO (List.mem_append_left _ z)) h1, Own.lock hu (fun z => hO (List.mem_append_right _ z)) h2, rfl⟩
theorem Own.unlock (hu : H a = some (.frz o (.dK kvs))) : ∀ {g : List It} {O : List Addr}, Own G H F g O → Own G (upd H a (.dK kvs)) F g O
  | [], _, h => h
  | p :: g, _, ⟨O1, O2, h1, h2, e⟩ => ⟨O1, O2, Tr.unlock hu h1, Own.unlock hu h2, e⟩
/-- what is kept while the dict at a is locked -/
def lkB (B : Bs) (a : Addr) (u : HO) : Bs := ⟨upd B.H a u, B.io.filter (fun b => decide (b ≠ a)), fun b => B.arg b ∨ b = a⟩
theorem W.lockD {ks : KK} {l : List D} {v : V} (w : W G B H ((v, .dct true ks l) :: g)) (hk : isK ks = true) :
    ∃ (a : Addr) (kvs : List (Key × V)), v = .ref a ∧ H a = some (.dK kvs) ∧ ks = .k (kvs.map (·.1)) ∧ (B.H a = none ∨ a ∈ B.io) ∧ ∀ o, W G (lkB B a (.frz o (.dK kvs))) (upd H a (.frz o (.dK kvs))) ((v, .dct false ks (freezes l)) :: g) := by
  have w0 := w
  obtain ⟨F, O, wf, O1, O2, h1, h2, e⟩ := w
  subst e
  have h1' := h1
  simp only [Tr] at h1'
  obtain ⟨a, xs, O', e, e1, h3, e2⟩ := h1'
  subst e2
  rcases e1 with ⟨kvs, e1, e3, _⟩ | ⟨kvs, _, e3, _⟩
  · have ha := wf.own a (by simp)
    refine ⟨a, kvs, e, e1, e3, ha, fun o => ?_⟩
    have w2 := wf.sub (List.sublist_append_right (a :: O') O2)
    have nd := List.nodup_append.mp wf.nd
    have na : a ∉ O2 := fun z => nd.2.2 a List.mem_cons_self a z rfl
    have f1 := Tr.freeze (F' := fun b => F b ∨ b ∈ a :: O') (fun _ => Or.inl) h1 (fun _ => Or.inr)
    refine ⟨fun b => F b ∨ b ∈ a :: O', O2, ⟨w2.nd, fun b hb hf => ?_, fun b hf => ?_, fun b hb => ?_, fun b hf => ?_, fun b o' hb hi nt => ?_, fun b ps hb hi => ?_, tabs_upd wf.tb fun u hu => by rw [e1] at hu; cases hu; trivial⟩, [], O2, Tr.lock e1 (fun z => nomatch z) f1, Own.lock e1 na (h2.mono (fun _ => Or.inl)), rfl⟩
    · rcases hf with hf | hf
      · exact w2.dj b hb hf
      · exact nd.2.2 b hf b hb rfl
    · by_cases hb : b = a
      · rw [hb, upd_same]; simp
      · rw [upd_ne hb]
        rcases hf with hf | hf
        · exact wf.fd b hf
        · have := Tr.own h1 b hf
          obtain ⟨u, hu, _⟩ := this
          rw [hu]; simp
    · have hba : b ≠ a := fun z => na (z ▸ hb)
      rcases w2.own b hb with q | q
      · exact .inl (by show upd B.H a _ b = none; rw [upd_ne hba]; exact q)
      · exact .inr (List.mem_filter.mpr ⟨q, by simpa using hba⟩)
    · by_cases hba : b = a
      · exact .inl (.inr hba)
      · rcases hf with hf | hf
        · rcases wf.fz b hf with q | q | q
          · exact .inl (.inl q)
          · exact .inr (.inl (by show upd B.H a _ b = none; rw [upd_ne hba]; exact q))
          · exact .inr (.inr (List.mem_filter.mpr ⟨q, by simpa using hba⟩))
        · rcases wf.own b (List.mem_append_left _ hf) with q | q
          · exact .inr (.inl (by show upd B.H a _ b = none; rw [upd_ne hba]; exact q))
          · exact .inr (.inr (List.mem_filter.mpr ⟨q, by simpa using hba⟩))
    · by_cases hba : b = a
      · rw [hba] at hb ⊢
        rw [upd_same]
        have : upd B.H a (HO.frz o (.dK kvs)) a = some o' := hb
        rw [upd_same] at this
        exact this
      · rw [upd_ne hba]
        have hb' : upd B.H a (HO.frz o (.dK kvs)) b = some o' := hb
        rw [upd_ne hba] at hb'
        refine wf.keep b o' hb' (fun z => hi ?_) nt
        exact List.mem_filter.mpr ⟨z, by simpa using hba⟩
    · by_cases hba : b = a
      · have : upd B.H a (HO.frz o (.dK kvs)) b = some (.tbl ps) := hb
        rw [hba, upd_same] at this
        cases this
      · rw [upd_ne hba]
        have hb' : upd B.H a (HO.frz o (.dK kvs)) b = some (.tbl ps) := hb
        rw [upd_ne hba] at hb'
        exact wf.tbs b ps hb' fun z => hi (List.mem_filter.mpr ⟨z, by simpa using hba⟩)
  · subst e3; simp [isK] at hk
theorem W.lkAt {u : HO} (w : W G (lkB B a u) H g) (nt : ∀ ps, u ≠ .tbl ps := by intro _ z; cases z) : H a = some u := by
  obtain ⟨F, O, wf, _⟩ := w
  exact wf.keep a u upd_same (by simp [lkB]) nt
theorem W.unlockD (w : W G (lkB B a (.frz o (.dK kvs))) H g) (ha : B.H a = none ∨ a ∈ B.io) : W G B (upd H a (.dK kvs)) g := by
  have hu := w.lkAt
  obtain ⟨F, O, wf, h⟩ := w
  have ne : ∀ b ∈ O, b ≠ a := fun b hb z => by
    rcases wf.own b hb with q | q
    · rw [z] at q
      have q' : upd B.H a (HO.frz o (.dK kvs)) a = none := q
      rw [upd_same] at q'; cases q'
    · have := (List.mem_filter.mp q).2
      rw [z] at this; simp at this
  have tbU : LamX.Tabs G.T (upd H a (.dK kvs)) := fun p hp => by
    obtain ⟨ps, h1, h2, h3⟩ := wf.tb p hp
    have n1 : p.1 ≠ a := fun z => by rw [z, hu] at h1; cases h1
    refine ⟨ps, by rw [upd_ne n1]; exact h1, h2, fun pos cv hc => ?_⟩
    obtain ⟨c, e1, e2⟩ := h3 pos cv hc
    exact ⟨c, e1, by rw [upd_ne (fun z => by rw [z, hu] at e2; unfold LamX.CodeO at e2; cases e2)]; exact e2⟩
  refine ⟨F, O, ⟨wf.nd, wf.dj, fun b hf => ?_, fun b hb => ?_, fun b hf => ?_, fun b o' hb hi nt => ?_, fun b ps hb hi => ?_, tbU⟩, Own.unlock hu h⟩
  · by_cases hb : b = a
    · rw [hb, upd_same]; simp
    · rw [upd_ne hb]; exact wf.fd b hf
  · rcases wf.own b hb with q | q
    · have q' : upd B.H a (HO.frz o (.dK kvs)) b = none := q
      rw [upd_ne (ne b hb)] at q'
      exact .inl q'
    · exact .inr (List.mem_filter.mp q).1
  · by_cases hba : b = a
    · rw [hba]; exact .inr ha
    · rcases wf.fz b hf with (q | q) | q | q
      · exact .inl q
      · exact absurd q hba
      · have q' : upd B.H a (HO.frz o (.dK kvs)) b = none := q
        rw [upd_ne hba] at q'
        exact .inr (.inl q')
      · exact .inr (.inr (List.mem_filter.mp q).1)
  · by_cases hba : b = a
    · rcases ha with q | q
      · rw [hba, q] at hb; cases hb
      · rw [hba] at hi; exact absurd q hi
    · rw [upd_ne hba]
      exact wf.keep b o' (by show upd B.H a _ b = _; rw [upd_ne hba]; exact hb) (fun z => hi (List.mem_filter.mp z).1) nt
  · by_cases hba : b = a
    · rcases ha with q | q
      · rw [hba, q] at hb; cases hb
      · rw [hba] at hi; exact absurd q hi
    · rw [upd_ne hba]
      exact wf.tbs b ps (by show upd B.H a _ b = _; rw [upd_ne hba]; exact hb) (fun z => hi (List.mem_filter.mp z).1)
/-! ### {k: v for name, x in found.items()} -/
def keyBk : Key → D
  | .inl i => .int i
  | .inr s => .str s
theorem tr_key (k : Key) : Tr G H F (keyBk k) (kV k) [] := by cases k <;> simp [keyBk, kV, Tr]
def itemsD (ks : List Key) (l : List D) : List D := List.zipWith (fun k d => D.tup [keyBk k, d]) ks l
def dcItM (i : Nat) (vs : List Nat) (g : MT) (mk mv : M D) : M D := fun r => match r[i]? with
  | some (some (.dct true (.k ks) l)) => (match dcL vs g mk mv (itemsD ks (freezes l)) (wipeR (r.set i (some (.dct false (.k ks) (freezes l)))) vs) (.k []) [] with
    | some (ks', l', r1) => some (.ok (.dct true ks' l') r1)
    | none => none)
  | _ => none
def Ctx.setB (c : Ctx) (B : Bs) : Ctx := ⟨c.G, B, c.ios, c.E⟩
theorem jk_items {B : Bs} {a : Addr} {o : Obj} {kvs : List (Key × V)} {l : List D} (hn : noOwns l = true) (ln : kvs.length = l.length) : JOk G (lkB B a (.frz o (.dK kvs))) (Iti a o kvs) [(.ref a, .dct false (.k (kvs.map (·.1))) l)] (itemsD (kvs.map (·.1)) l) where
  go := fun i H g w sub hi => ⟨w.lkAt, by simp [itemsD] at hi; omega⟩
  stop := fun i H g w sub hi => ⟨w.lkAt, by simp [itemsD] at hi; omega⟩
  yld := fun i H g x H' d w sub hi hy => by
    obtain ⟨T, k, v, hk, rfl, hT, rfl⟩ := hy
    obtain ⟨a', xs, e1, e2, kd⟩ := w.dct (sub _ List.mem_cons_self)
    cases e1
    have hx : xs = kvs.map (·.2) := by
      rcases e2 with e2 | ⟨o', u, e0, e2⟩
      · rw [w.lkAt] at e2; rcases e2 with ⟨_, e2, _⟩ | ⟨_, e2, _⟩ <;> cases e2
      · rw [w.lkAt] at e0; cases e0
        rcases e2 with ⟨kv', e3, _, e4, _⟩ | ⟨kv', e3, _⟩
        · cases e3; exact e4
        · cases e3
    have hz := hi
    unfold itemsD at hz
    rw [List.getElem?_zipWith] at hz
    have h1 : (kvs.map (·.1))[i]? = some k := by simp [hk]
    rw [h1] at hz
    cases hl : l[i]? with
    | none => rw [hl] at hz; cases hz
    | some dv =>
      rw [hl] at hz
      cases hz
      have hx2 : xs[i]? = some v := by rw [hx]; simp [hk]
      exact newT (xs := [kV k, v]) (l := [keyBk k, dv]) w hT (.cons (Cp.triv fun F => tr_key k) (.cons ((kd.kc hn).cp i v dv hx2 hl) .nil))
theorem pe_ex {ι : Type} {ex : Expr} {t : ι → TE} (h : ∀ i, PE X ex (t i)) : PE X ex (fun σ H Q => ∃ i, t i σ H Q) := ⟨fun pins s σ H Q I ⟨i, q⟩ => (h i).run pins s σ H Q I q⟩
theorem pg_ex {ι : Type} {ex : Expr} {t : ι → TG} (h : ∀ i, PG X ex (t i)) : PG X ex (fun v σ H Q => ∃ i, t i v σ H Q) := ⟨fun pins s σ H v u Q I ru ⟨i, q⟩ => (h i).run pins s σ H v u Q I ru q⟩
theorem pts_ex {ι : Type} {ex : List Expr} {t : ι → TT} (h : ∀ i, PTs X ex (t i)) : PTs X ex (fun σ H Q => ∃ i, t i σ H Q) := ⟨fun pins s σ H Q I ⟨i, q⟩ => (h i).run pins s σ H Q I q⟩
theorem dcIt_red {i : Nat} {g : MT} {mk mv : M D} {vs : List Nat} (hv : ∀ p ∈ c.ios, p.1 ∉ vs) (h : tm c (dcItM i vs g mk mv) σ H Q) :
    tLockE (tDc (iItems (tVar i)) (fun v σ H Q => ∃ B', tG (c.setB B') vs g v σ H Q) (fun σ H Q => ∃ B', tmB (c.setB B') yesM σ H Q) (fun σ H Q => ∃ B', tm (c.setB B') mk σ H Q) (fun σ H Q => ∃ B', tm (c.setB B') mv σ H Q) vs) σ H Q := by
  obtain ⟨r, e, x, n, hx, fin⟩ := h
  unfold dcItM at hx
  split at hx
  · rename_i ks0 l0 hr
    split at hx
    · rename_i ksF lF r9 hlc
      cases hx
      obtain ⟨v0, hσ⟩ := n.al.al.has i _ hr
      have w0 : W c.G c.B H (e ++ envI σ r) := n.w
      have w1 := w0.take n.al.al hσ hr
      obtain ⟨a, kvs, rfl, hu, ek, hB, lk⟩ := w1.lockD rfl
      cases ek
      refine ⟨a, .dK kvs, hu, trivial, fun od => ⟨.ref a, hσ, a, od, kvs, rfl, upd_same, fun Dd hD => ?_⟩⟩
      have il : i < (r.set i none).length := by rw [List.length_set]; exact (List.getElem?_eq_some_iff.mp hr).1
      have w2 := W.put (σ := σ) (r := r.set i none) (i := i) (e := e) (lk od) (n.al.al.setR (y := none) fun z => by simp at z) il
      rw [set_self_of hσ, List.set_set] at w2
      have no : noOwns (freezes l0) = true := noOwns_freezes l0
      have a2 : Alx c σ (r.set i (some (.dct false (.k (kvs.map (·.1))) (freezes l0)))) := n.al.setR hσ
      generalize hr1 : r.set i (some (.dct false (.k (kvs.map (·.1))) (freezes l0))) = r1 at *
      have hr1i : r1[i]? = some (some (.dct false (.k (kvs.map (·.1))) (freezes l0))) := by
        rw [← hr1]
        exact List.getElem?_set_self (by simpa using il)
      have mem : ((V.ref a, D.dct false (.k (kvs.map (·.1))) (freezes l0)) : It) ∈ e ++ envI σ r1 := List.mem_append_right _ (List.mem_iff_getElem?.mpr ⟨i, envI_get hσ hr1i⟩)
      have ln : kvs.length = (freezes l0).length := by
        obtain ⟨a', xs, e1, e2, kd⟩ := w2.dct mem
        cases e1
        rw [← kd.len]
        have := e2
        rcases e2 with e2 | ⟨o', u, e0, e2⟩
        · have := e2.len; simpa [KK.len] using this
        · have := e2.len; simpa [KK.len] using this
      have cp : Cp c.G (upd H a (.frz od (.dK kvs))) (e ++ envI σ r1) (.ref a) (D.dct false (.k (kvs.map (·.1))) (freezes l0)) := Cp.of mem (by simp [noOwn, no])
      have w3 : W c.G (lkB c.B a (.frz od (.dK kvs))) (upd H a (.frz od (.dK kvs))) ([(V.ref a, D.dct false (.k (kvs.map (·.1))) (freezes l0))] ++ (e ++ envI σ r1)) := w2.add cp
      have jk := jk_items (G := c.G) (B := c.B) (a := a) (o := od) no ln
      generalize hB' : lkB c.B a (.frz od (.dK kvs)) = B' at *
      generalize hkp : [((V.ref a, D.dct false (.k (kvs.map (·.1))) (freezes l0)) : It)] = kp at *
      generalize hits : itemsD (kvs.map (·.1)) (freezes l0) = items at *
      have al : ∀ {σ r}, Alx (c.setB B') σ r → Alx c σ r := fun a => ⟨a.al, a.io⟩
      have la : ∀ {σ r}, Alx c σ r → Alx (c.setB B') σ r := fun a => ⟨a.al, a.io⟩
      have wD : W c.G B' (upd (upd H a (.frz od (.dK kvs))) Dd (.dK [])) ((.ref Dd, .dct true (.k []) []) :: (kp ++ (e ++ envI σ r1))) := (w3.new hD).closeD (xs := []) (l := []) rfl (.inl ⟨[], rfl, rfl, rfl, List.nodup_nil⟩)
      have wD' : W c.G B' (upd (upd H a (.frz od (.dK kvs))) Dd (.dK [])) (((.ref Dd, .dct true (.k []) []) :: (kp ++ e)) ++ envI σ r1) := by
        show W c.G B' _ ((V.ref Dd, D.dct true (.k []) []) :: ((kp ++ e) ++ envI σ r1))
        rw [List.append_assoc]; exact wD
      refine ⟨fun i m' H => m' = items.length - i ∧ i ≤ items.length ∧ ∃ r ks l, Alx c (wipe σ vs) r ∧ envI (wipe σ vs) r = envI σ r ∧ W c.G B' H ((.ref Dd, .dct true (.k ks) l) :: (kp ++ (e ++ envI (wipe σ vs) r))) ∧ dcL vs g mk mv (items.drop i) r (.k ks) l = some (ksF, lF, r9),
        ⟨items.length, rfl, Nat.zero_le _, wipeR r1 vs, [], [], a2.wipe hv, env_wipe, ?_, hlc⟩, ?_⟩
      · have := W.wipe (vs := vs) wD' a2.al
        simpa [List.append_assoc] using this
      · rintro i m' H ⟨rfl, hi, r, ks, l, aa, ew, w, hf⟩
        have sub : ∀ q ∈ kp, q ∈ (V.ref Dd, D.dct true (.k ks) l) :: (kp ++ (e ++ envI (wipe σ vs) r)) := fun q hq => List.mem_cons_of_mem _ (List.mem_append_left _ hq)
        by_cases hlt : i < items.length
        · refine .inr ⟨jk.go i H _ w sub hlt, fun H' => ∃ r ks l, Alx c (wipe σ vs) r ∧ envI (wipe σ vs) r = envI σ r ∧ W c.G B' H' ((.ref Dd, .dct true (.k ks) l) :: (kp ++ (e ++ envI (wipe σ vs) r))) ∧ dcL vs g mk mv (items.drop (i + 1)) r (.k ks) l = some (ksF, lF, r9),
            fun H' q => ⟨items.length - (i + 1), by omega, rfl, hlt, q⟩, fun xv H' hy => ?_⟩
          rw [List.drop_eq_getElem_cons hlt] at hf
          have w2 := jk.yld i H _ xv H' items[i] w sub (List.getElem?_eq_getElem hlt) hy
          unfold dcL at hf
          split at hf
          · rename_i r2 hg2
            refine ⟨B', r, (.ref Dd, .dct true (.k ks) l) :: (kp ++ e), items[i], r2, la aa, show W c.G B' _ _ from by simpa [List.append_assoc] using w2, hg2, fun σ2 H2 wp a2 w3 => ⟨by rw [wp, wipe_idem], ?_⟩⟩
            have wp2 : wipe σ2 vs = wipe σ vs := by rw [wp, wipe_idem]
            refine ⟨B', r2, (.ref Dd, .dct true (.k ks) l) :: (kp ++ e), _, ⟨a2, Vok.nil, w3⟩, rfl, fun H3 a3 w4 => iteT ?_⟩
            split at hf
            · rename_i kd r3 hmk
              split at hf
              · rename_i hks
                obtain ⟨key, hkey⟩ := Option.isSome_iff_exists.mp hks
                split at hf
                · rename_i y r4 hmv
                  split at hf
                  · rename_i pp hput
                    refine ⟨B', r2, (.ref Dd, .dct true (.k ks) l) :: (kp ++ e), _, ⟨a3, Vok.nil, w4⟩, hmk, fun kv H4 a4 w5 => ?_⟩
                    have ekk := keyD_V w5 List.mem_cons_self hkey
                    refine ⟨B', r3, (.ref Dd, .dct true (.k ks) l) :: (kp ++ e), _, ⟨a4, Vok.nil, w5.drop⟩, hmv, fun yv H5 a5 w6 => ?_⟩
                    have w7 : W c.G B' H5 ((.ref Dd, .dct true (.k ks) l) :: ((yv, y) :: ((kp ++ e) ++ envI σ2 r4))) := W.perm w6 (List.Perm.swap _ _ _)
                    obtain ⟨b, zs, e1, e2, ln2, wo⟩ := w7.openD
                    cases e1
                    obtain ⟨ks', l'⟩ := pp
                    obtain ⟨kvs2, xs', q1, q2, q3, q4, ⟨ks2, rfl⟩, q5⟩ := put_k (G := c.G) (vv := yv) hkey e2 ln2 hput
                    have w8 := W.setD (j := 0) wo ln2 q3 q4 q5
                    refine ⟨kvs2, key, ekk, q1, q2, wipeR r4 vs, ks2, l', by rw [← wp2]; exact (al a5).wipe hv, env_wipe, ?_, hf⟩
                    have := W.wipe (g := (.ref Dd, .dct true (.k ks2) l') :: (kp ++ e)) (vs := vs) w8 a5.al
                    rw [wp2] at this
                    simpa [List.append_assoc] using this
                  · cases hf
                · cases hf
              · cases hf
            · cases hf
          · cases hf
        · have ei : i = items.length := by omega
          subst ei
          rw [List.drop_length] at hf
          cases hf
          have w' := w
          rw [ew] at w'
          have w9 : W c.G B' H ((.ref Dd, .dct true (.k ks) lF) :: (e ++ envI σ r9)) := W.drops (l := kp) (w'.perm List.perm_middle.symm)
          subst hB'
          exact .inl ⟨jk.stop _ H _ w sub (Nat.le_refl _), w9.lkAt, fin _ _ (aa.unwipe hv) (w9.unlockD hB)⟩
    · cases hx
  · cases hx
theorem z_dcIt {kx vx : Expr} {x : Str} {px apos cpos tpos : Pos} {elts : List Expr} {kk : Nat} {scope : Scope} {pos : Pos} {g : MT} {mk mv : M D} (i : Nat) (own : List (Str × Nat)) (hio : ∀ p ∈ c.ios, p.1 < nio) (hc : X.calm = true) (hN : X.N.Nodup)
    (hg : ∀ (B' : Bs) (s : Shared) (H : Hp) (C : Addr) (cl : List (Str × Addr)) (fp : List Addr), PG (X.blk s H scope (compEnvC scope cl C X.env) fp) (.Tuple elts kk tpos) (tG (c.setB B') (own.map (·.2)) g))
    (hk : ∀ (B' : Bs) (s : Shared) (H : Hp) (C : Addr) (cl : List (Str × Addr)) (fp : List Addr), PE (X.blk s H scope (compEnvC scope cl C X.env) fp) kx (tm (c.setB B') mk))
    (he : ∀ (B' : Bs) (s : Shared) (H : Hp) (C : Addr) (cl : List (Str × Addr)) (fp : List Addr), PE (X.blk s H scope (compEnvC scope cl C X.env) fp) vx (tm (c.setB B') mv))
    (hx : X.N[i]? = some x := by rfl) (hvx : Vis X.env.scope x := by first | exact Or.inl rfl | exact Or.inr (Or.inl rfl) | exact Or.inr (Or.inr rfl)) (hd : (x == ("__debug__" : Str)) = false := by decide) (hcd : (x == ("__classdict__" : Str)) = false := by decide)
    (hbase : attributeBase (.Name x px) "items" X.env (eval (.Name x px) X.env) = eval (.Name x px) X.env := by rfl) (hline : (apos.endLine == cpos.line) = true := by rfl)
    (ok : BlkOk X.N X.env.scope scope own := by exact blkOk_by (by rfl)) (hv : ∀ i ∈ own.map (·.2), nio ≤ i := by decide) (hs : ∀ y, foldedSetIterable (.Call (.Attribute (.Name x px) "items" apos) [] [] cpos) X.env y = pure y := by intro _; rfl) :
    PE X (.DictComp kx vx [⟨.Tuple elts kk tpos, .Call (.Attribute (.Name x px) "items" apos) [] [] cpos, [], 0⟩] scope pos) (tm c (dcItM i (own.map (·.2)) g mk mv)) :=
  pe_imp (pe_lock (pe_dc hc hN (pi_items (pe_var hx hvx hd hcd) hbase hline) ok (fun s H C cl fp => pg_ex fun B' => hg B' s H C cl fp) (fun _ _ _ _ _ => pts_ex fun B' => z_ptsnil) (fun s H C cl fp => pe_ex fun B' => hk B' s H C cl fp) (fun s H C cl fp => pe_ex fun B' => he B' s H C cl fp) hs)) fun σ H Q => dcIt_red fun p hp hm => by have := hio p hp; have := hv _ hm; omega
end Z

set_option Elab.async false
set_option linter.all false
set_option maxRecDepth 100000
set_option maxHeartbeats 4000000
/-! Z21: more of dicts: rules, a list within one; comparisons in a chain; names of the module. -/
namespace Z
open PySem PySem.Spec PyProof.Rows L2
variable {c : Ctx} {σ : L2.St} {H : Hp} {l : Pend} {r : Rho} {e : List It} {X : Cx} {Q : VK} {N : Ends} {nio : Nat} {G : Cfg} {B : Bs} {g : List It} {a : Addr}
section
variable {a b ex : Expr} {es : List Expr} {ma mb : M Opd} {pos p apos : Pos} {x : Str} {cop : CmpOp}
theorem z_ixD (hu : X.A.units + 1 < cLine) (ha : PE X a (tmo c ma)) (hb : PE X b (tmo c mb)) (hs : PlainIx b := by intro _ _; rfl) : PE X (.Subscript a b pos) (tm c (op2 true idxD ma mb)) :=
  pe_imp (pe_ix (idxD_ok hu) ha hb hs) fun _ _ _ => red2
theorem z_gc {d : D} {v : V} (hg : Gl X x) (h : ∃ u, X.mg x = some u ∧ L2.RelV v u) (t : ∀ (G : Cfg) (H : Hp) (F : Addr → Prop), Tr G H F d v [] := by intro _ _ _; simp [Tr]) (hd : (x == ("__debug__" : Str)) = false := by decide) : PE X (.Name x pos) (tm c (ret d)) :=
  h.elim fun u q => pe_cst (pe_glob hg q.1 q.2 hd) t
end
/-! ### len, list of a dict -/
def lenD : List D → Option D
  | [.dct _ (.k ks) _] => if ks.length ≤ 10000000 then some (.int ks.length) else none
  | _ => none
theorem rd_k {ks : List Key} {xs : List V} (h : DRd H a (.k ks) xs) : ∃ kvs, Rd H a (.dK kvs) ∧ ks = kvs.map (·.1) ∧ xs = kvs.map (·.2) := by
  rcases h with (⟨kvs, e, e1, e2, _⟩ | ⟨kvs, e, e1, e2, _⟩) | ⟨o, u, e0, (⟨kvs, e, e1, e2, _⟩ | ⟨kvs, e, e1, e2, _⟩)⟩
  · cases e1; exact ⟨kvs, .inl e, rfl, e2⟩
  · cases e1
  · cases e1; cases e; exact ⟨kvs, .inr ⟨o, e0⟩, rfl, e2⟩
  · cases e1
theorem lenD_ok : CallR X (.builtin "len") (rZ false G lenD) := by
  intro pins s σ H xs us Q I r h
  obtain ⟨B, g, ds, d, w, hl, hm, hk, hf, q⟩ := h
  unfold lenD at hf
  split at hf
  · rename_i o ks l
    split at hf
    · rename_i hz
      cases hf
      match xs, hl with
      | [x], _ =>
      obtain ⟨a, ys, e1, h1, c1⟩ := w.dct (mem1 hm)
      obtain ⟨kvs, rd, ek, ev⟩ := rd_k h1
      subst e1
      have eu := Vals.ref1 r
      subst eu
      refine d_len I rd fun t s' I' => ⟨.int (kvs.length : Nat), H, I', ⟨t, rfl⟩, w.scal q fun F => by simp [Tr, ek]⟩
    · cases hf
  · cases hf
def listD : List D → Option D
  | [.dct _ (.k ks) _] => some (.lst true (ks.map keyBk))
  | _ => none
theorem kc_keys {ks : List Key} : KC G H g (ks.map kV) (ks.map keyBk) := ⟨by simp, fun i x d h1 h2 => by
  simp only [List.getElem?_map] at h1 h2
  cases hk : ks[i]? with
  | none => rw [hk] at h1; cases h1
  | some k =>
    rw [hk] at h1 h2
    cases h1; cases h2
    exact Cp.triv fun F => tr_key k⟩
theorem listD_ok (hc : X.calm = true) : CallR X (.type "list") (rZ false G listD) := by
  intro pins s σ H xs us Q I r h
  obtain ⟨B, g, ds, d, w, hl, hm, hk, hf, q⟩ := h
  unfold listD at hf
  split at hf
  · rename_i o ks l
    cases hf
    match xs, hl with
    | [x], _ =>
    obtain ⟨a, ys, e1, h1, c1⟩ := w.dct (mem1 hm)
    obtain ⟨kvs, rd, ek, ev⟩ := rd_k h1
    subst e1
    refine call_listD hc pins s σ H _ us Q I r ⟨a, kvs, rfl, rd, fun p hp => q _ _ ?_⟩
    have := newL w hp (kc_keys (ks := ks))
    rw [ek, List.map_map] at this
    rw [ek]
    exact this
  · cases hf
/-! ### {k: v} -/
def dispM (mk mv : M D) : M D := fun r => match mk r with
  | some (.ok k r1) => (match mv r1 with
    | some (.ok x r2) => (match keyD k with
      | some key => some (.ok (.dct true (.k [key]) [x]) r2)
      | none => none)
    | _ => none)
  | _ => none
theorem z_disp {kx vx : Expr} {pos : Pos} {mk mv : M D} (hk : PE X kx (tm c mk)) (hv : PE X vx (tm c mv)) : PE X (.Dict [some kx] [vx] pos) (tm c (dispM mk mv)) :=
  pe_imp (pe_disp (pps_cons hk hv pps_nil) rfl rfl (by simp) (by simp)) fun σ H Q ⟨r, e, x, n, hx, fin⟩ p hp => by
    unfold dispM at hx
    split at hx
    · rename_i k r1 h1
      split at hx
      · rename_i y r2 h2
        split at hx
        · rename_i key hkey
          cases hx
          have w0 : W c.G c.B H (e ++ envI σ r) := n.w
          have w1 : W c.G c.B (upd H p (.dK [])) ((.ref p, .dct true (.k []) []) :: (e ++ envI σ r)) := (w0.new hp).closeD (xs := []) (l := []) rfl (.inl ⟨[], rfl, rfl, rfl, List.nodup_nil⟩)
          refine ⟨r, (.ref p, .dct true (.k []) []) :: e, _, ⟨n.al, Vok.nil, w1⟩, h1, fun kv H4 a4 w5 => ?_⟩
          have ek := keyD_V w5 List.mem_cons_self hkey
          refine ⟨r1, (.ref p, .dct true (.k []) []) :: e, _, ⟨a4, Vok.nil, w5.drop⟩, h2, fun yv H5 a5 w6 => ?_⟩
          have w7 : W c.G c.B H5 ((.ref p, .dct true (.k []) []) :: ((yv, y) :: (e ++ envI σ r2))) := W.perm w6 (List.Perm.swap _ _ _)
          obtain ⟨b, zs, e1, e2, ln2, wo⟩ := w7.openD
          cases e1
          have hput : putD (.k []) [] k y = some (.k [key], [y]) := by simp [putD, posD, hkey, posK, addKK, KK.len]
          obtain ⟨kvs2, xs', q1, q2, q3, q4, _, q5⟩ := put_k (G := c.G) (vv := yv) hkey e2 ln2 hput
          have w8 := W.setD (j := 0) wo ln2 q3 q4 q5
          have k0 : kvs2 = [] := by
            rcases e2 with ⟨kv', e3, e4, _⟩ | ⟨kv', e3, e4, _⟩
            · rw [q1] at e3; cases e3
              cases kvs2 with
              | nil => rfl
              | cons _ _ => simp at e4
            · cases e4
          subst k0
          exact ⟨q1, [(key, yv)], by simp [ek], by simp, fin _ _ a5 w8⟩
        · cases hx
      · cases hx
    · cases hx
theorem Fin.dropMid {e1 : List It} {x : R D} (h : Fin c σ e Q x) : Fin c σ (e1 ++ e) Q x := by
  cases x with
  | ok d r => exact fun v H a w => h v H a (by
      have q : (((v, d) : It) :: ((e1 ++ e) ++ envI σ r)).Perm (e1 ++ ((v, d) :: (e ++ envI σ r))) := by
        rw [List.append_assoc]
        exact List.perm_middle.symm
      exact W.drops (W.perm w q))
  | exc C ns ds r => exact PostX.dropMid h
/-! ### a <= b <= c, the middle a number made -/
def chM (f f' : List D → Option D) (ma : M Opd) (mb : M D) (mc : M Opd) : M D := bnd ma fun o => bnd (mT mb) fun o' r => match o', opdD r o with
  | .t (.int i), some d => (match f [d, .int i] with
    | some (.bl true) => bnd mc (fun o'' => opc false f' [.t (.int i), o'']) r
    | some (.bl false) => some (.ok (.bl false) r)
    | _ => none)
  | _, _ => none
theorem red_ch {f f' : List D → Option D} {ma mc : M Opd} {mb : M D} (h : tm c (chM f f' ma mb mc) σ H Q) : tChain (fun x y => rZ false c.G f [x, y]) (fun x y => rZ false c.G f' [x, y]) (tmo c ma) (tmo c (mT mb)) (tmo c mc) σ H Q :=
  tmo_mono (tk_bnd h) fun v H1 ⟨o, h1⟩ => tmo_mono (tk_bnd h1) fun u H2 ⟨o', h2⟩ => by
    obtain ⟨r, e, x, n, hx, fin⟩ := h2
    dsimp only at hx
    split at hx
    · rename_i i dA ho
      have mA := opd_mem n (List.mem_cons_of_mem _ List.mem_cons_self) ho
      have mB := opd_mem (o := .t (.int i)) n List.mem_cons_self rfl
      have eu := n.w.int mB
      subst eu
      have go : ∀ b, f [dA, .int i] = some (.bl b) → (∀ z H3, W c.G c.B H3 ((z, .bl b) :: (tmps [(V.int i, Opd.t (.int i)), (v, o)] ++ (e ++ envI σ r))) → ∃ k, z = .bl k ∧ (if k = true then tmo c mc σ H3 fun w' H4 => rZ false c.G f' [.int i, w'] H4 Q else Q (.bl false) H3)) → rZ false c.G f [v, .int i] H2 fun z H3 => ∃ k, z = .bl k ∧ (if k = true then tmo c mc σ H3 fun w' H4 => rZ false c.G f' [.int i, w'] H4 Q else Q (.bl false) H3) := fun b hb k =>
        ⟨c.B, _, [dA, .int i], .bl b, n.w, rfl, fun p hp => by
          simp at hp
          rcases hp with rfl | rfl
          · exact mA
          · exact mB, (fun z => nomatch z), hb, k⟩
      split at hx
      · rename_i hf
        refine go true hf fun z H3 w3 => ⟨true, w3.bl List.mem_cons_self, ?_⟩
        rw [if_pos rfl]
        have w4 : W c.G c.B H3 ((.int i, .int i) :: (tmps [(v, o)] ++ (e ++ envI σ r))) := by
          have := w3.drop
          have : W c.G c.B H3 (tmps [(v, o)] ++ (e ++ envI σ r)) := W.drops (l := tmps [(V.int i, Opd.t (.int i))]) (by simpa [tmps] using this)
          exact this.add (Cp.triv fun F => by simp [Tr])
        have h3 : tk c [(V.int i, Opd.t (.int i))] (bnd mc fun o'' => opc false f' [.t (.int i), o'']) σ H3 Q := ⟨r, tmps [(v, o)] ++ e, x, ⟨n.al, (fun x i m => by simp at m), by simpa [tmps, List.append_assoc] using w4⟩, hx, Fin.dropMid fin⟩
        exact tmo_mono (tk_bnd h3) fun w' H4 ⟨o'', h4⟩ => tk_opc opZ_rZ rfl (by simp) h4
      · rename_i hf
        cases hx
        refine go false hf fun z H3 w3 => ⟨false, w3.bl List.mem_cons_self, ?_⟩
        rw [if_neg (by decide)]
        refine fin _ _ n.al ?_
        have : W c.G c.B H3 (e ++ envI σ r) := W.drops (l := tmps [(V.int i, Opd.t (.int i)), (v, o)]) w3.drop
        exact this.add (Cp.triv fun F => by simp [Tr])
      · cases hx
    · cases hx
section
variable {a b d : Expr} {op op' : CmpOp} {pos : Pos} {f f' : List D → Option D} {ma mc : M Opd} {mb : M D}
theorem z_chain (ho : OpR X (compareOp op) (fun x y => rZ false c.G f [x, y])) (ho' : OpR X (compareOp op') (fun x y => rZ false c.G f' [x, y]))
    (ha : PE X a (tmo c ma)) (hb : PE X b (tm c mb)) (hd : PE X d (tmo c mc)) (hm : lastMarks [op, op'] [b, d] = false := by first | rfl | decide) : PE X (.Compare a [op, op'] [b, d] pos) (tm c (chM f f' ma mb mc)) :=
  pe_imp (pe_chain ho ho' ha (z_T hb) hd (hm := hm)) fun σ H Q => red_ch
theorem z_tchain (ho : OpR X (compareOp op) (fun x y => rZ false c.G f [x, y])) (ho' : OpR X (compareOp op') (fun x y => rZ false c.G f' [x, y]))
    (ha : PE X a (tmo c ma)) (hb : PE X b (tm c mb)) (hd : PE X d (tmo c mc)) (hm : lastMarks [op, op'] [b, d] = false := by first | rfl | decide) : PT X (.Compare a [op, op'] [b, d] pos) (tmB c (chM f f' ma mb mc)) :=
  pt_imp (pt_chain ho ho' ha (z_T hb) hd (hm := hm)) fun σ H Q h => by
    have h' : tm c (chM f f' ma mb mc) σ H fun v H1 => ∃ k, v = .bl k ∧ Q k H1 := by
      obtain ⟨r, e, x, n, hx, fin⟩ := h
      refine ⟨r, e, x, n, hx, ?_⟩
      cases x with
      | exc C ns ds r1 => exact fin
      | ok d r1 =>
        cases d with
        | bl b => exact fun v H1 a w => ⟨b, w.bl List.mem_cons_self, fin H1 a w.drop⟩
        | _ => exact False.elim fin
    exact red_ch h'
end
end Z

set_option Elab.async false
set_option linter.all false
set_option maxRecDepth 100000
set_option maxHeartbeats 4000000
/-! Z22: d[k].append(x). -/
namespace Z
open PySem PySem.Spec PyProof.Rows L2
variable {c : Ctx} {σ : L2.St} {H : Hp} {l : Pend} {r : Rho} {e : List It} {X : Cx} {Q : VK} {N : Ends} {nio : Nat} {G : Cfg} {B : Bs} {g : List It} {a : Addr}
/-- a list within an owned dict gets another item -/
theorem W.inner {ks : List Key} {l m : List D} {p : Nat} {v0 : V} {yv : V} {d : D} (w : W G B H ((v0, .dct true (.k ks) l) :: ((yv, d) :: g))) (hl : l[p]? = some (.lst true m)) :
    ∃ a xs b ys, v0 = .ref a ∧ DHo (H a) (.k ks) xs ∧ xs[p]? = some (.ref b) ∧ H b = some (.lst ys) ∧ ys.length = m.length ∧ W G B (upd H b (.lst (ys ++ [yv]))) ((v0, .dct true (.k ks) (l.set p (.lst true (m ++ [d])))) :: g) := by
  obtain ⟨a, xs, e1, e2, ln, wo⟩ := w.openD
  have hp : p < l.length := (List.getElem?_eq_some_iff.mp hl).1
  have hpx : p < xs.length := by rw [ln]; exact hp
  obtain ⟨x0, hx0⟩ : ∃ x0, xs[p]? = some x0 := ⟨_, List.getElem?_eq_getElem hpx⟩
  have hz : (xs.zip l)[p]? = some (x0, .lst true m) := (List.getElem?_zip_eq_some (z := (x0, D.lst true m))).mpr ⟨hx0, hl⟩
  -- the dict's address holds an empty list meanwhile
  have w1 : W G B (upd H a (.lst [])) ((.ref a, .lst true []) :: (xs.zip l ++ ((yv, d) :: g))) := Wo.closeL (xs := []) (l := []) wo rfl
  have w2 : W G B (upd H a (.lst [])) ((x0, .lst true m) :: ((.ref a, .lst true []) :: ((xs.zip l).eraseIdx p ++ ((yv, d) :: g)))) := by
    refine w1.perm ?_
    refine List.Perm.trans ?_ (List.Perm.swap _ _ _)
    refine List.Perm.cons _ ?_
    exact (perm_erase hz).append_right _
  obtain ⟨b, ys, rfl, hb, ly, wo2⟩ := w2.openL
  have hab : b ≠ a := fun z => by
    have w3 := w2
    obtain ⟨F, O, wf, O1, O2, t1, ⟨O3, O4, t2, _, e4⟩, e3⟩ := w3
    subst e3 e4
    simp only [Tr] at t1 t2
    obtain ⟨b1, _, O5, q1, _, _, q2⟩ := t1
    obtain ⟨b2, _, O6, q3, _, _, q4⟩ := t2
    cases q1; cases q3
    subst q2 q4
    have nd := wf.nd
    rw [z] at nd
    simp at nd
  rw [upd_ne hab] at hb
  have w4 : W G B (upd (upd H a (.lst [])) b (.lst (ys ++ [yv]))) ((.ref b, .lst true (m ++ [d])) :: ((.ref a, .lst true []) :: ((xs.zip l).eraseIdx p ++ g))) := by
    refine Wo.closeL ?_ (by simp [ly])
    rw [zip_app1 ly]
    refine wo2.perm ?_
    rw [List.append_assoc]
    refine List.Perm.append_left _ ?_
    show List.Perm _ ((yv, d) :: ((.ref a, .lst true []) :: ((xs.zip l).eraseIdx p ++ g)))
    refine List.Perm.trans (List.Perm.cons _ List.perm_middle) (List.Perm.swap _ _ _)
  have w5 : W G B (upd (upd H a (.lst [])) b (.lst (ys ++ [yv]))) ((.ref a, .lst true []) :: ((.ref b, .lst true (m ++ [d])) :: ((xs.zip l).eraseIdx p ++ g))) := w4.perm (List.Perm.swap _ _ _)
  obtain ⟨a', zs, e5, e6, _, wo3⟩ := w5.openL
  cases e5
  have o' : ∃ o', H a = some o' := by rcases e2 with ⟨kvs, e2, _⟩ | ⟨kvs, e2, _⟩ <;> exact ⟨_, e2⟩
  obtain ⟨o', ho'⟩ := o'
  have w6 : W G B (upd (upd (upd H a (.lst [])) b (.lst (ys ++ [yv]))) a o') ((.ref a, .dct true (.k ks) (l.set p (.lst true (m ++ [d])))) :: g) := by
    refine Wo.closeD (xs := xs) ?_ (by simp [ln]) (by rw [← ho']; exact e2)
    have hs : xs.zip (l.set p (.lst true (m ++ [d]))) = (xs.zip l).set p (.ref b, .lst true (m ++ [d])) := by
      rw [← zip_set, set_self_of hx0]
    have jl : p < (xs.zip l).length := by rw [List.length_zip, ln, Nat.min_self]; exact hp
    rw [hs]
    have z0 : ([] : List V).length = zs.length := by
      rw [upd_ne (Ne.symm hab), upd_same] at e6
      cases e6; rfl
    have zn : zs = [] := List.length_eq_zero_iff.mp z0.symm
    subst zn
    refine wo3.perm ?_
    exact ((perm_set jl).symm.append_right g)
  have eH : upd (upd (upd H a (.lst [])) b (.lst (ys ++ [yv]))) a o' = upd H b (.lst (ys ++ [yv])) := by
    funext q
    by_cases h1 : q = a
    · rw [h1, upd_same, upd_ne (Ne.symm hab), ho']
    · rw [upd_ne h1]
      by_cases h2 : q = b
      · rw [h2, upd_same, upd_same]
      · rw [upd_ne h2, upd_ne h1, upd_ne h2]
  rw [eH] at w6
  exact ⟨a, xs, b, ys, e1, e2, hx0, hb, ly, by rw [e1]; exact w6⟩
def appDM (i j z : Nat) : M D := fun r => match r[i]?, r[j]?, r[z]? with
  | some (some (.dct true (.k ks) l)), some (some dk), some (some d) => if noOwn d = true ∧ i ≠ z then (match posD (.k ks) dk with
    | some (some p) => (match l[p]? with
      | some (.lst true m) => if m.length < 10000000 then some (.ok .non (r.set i (some (.dct true (.k ks) (l.set p (.lst true (m ++ [d]))))))) else none
      | _ => none)
    | _ => none) else none
  | _, _, _ => none
theorem z_appD {x y z : Str} {px py pz p2 apos cpos : Pos} (hu : X.A.units + 1 < cLine) (i j k : Nat) (hG : c.G.K = X.K) (hN : X.N[i]? = some x := by rfl) (hv : Vis X.env.scope x := by first | exact Or.inl rfl | exact Or.inr (Or.inl rfl) | exact Or.inr (Or.inr rfl))
    (hN2 : X.N[j]? = some y := by rfl) (hv2 : Vis X.env.scope y := by first | exact Or.inl rfl | exact Or.inr (Or.inl rfl) | exact Or.inr (Or.inr rfl)) (hN3 : X.N[k]? = some z := by rfl) (hv3 : Vis X.env.scope z := by first | exact Or.inl rfl | exact Or.inr (Or.inl rfl) | exact Or.inr (Or.inr rfl)) (hd : (x == ("__debug__" : Str)) = false := by decide)
    (hcd : (x == ("__classdict__" : Str)) = false := by decide) (hd2 : (y == ("__debug__" : Str)) = false := by decide) (hcd2 : (y == ("__classdict__" : Str)) = false := by decide) (hd3 : (z == ("__debug__" : Str)) = false := by decide) (hcd3 : (z == ("__classdict__" : Str)) = false := by decide) (hs1 : NoSl (.Name y py) := by intro _ _; rfl)
    (hbase : attributeBase (.Subscript (.Name x px) (.Name y py) p2) "append" X.env (eval (.Subscript (.Name x px) (.Name y py) p2) X.env) = eval (.Subscript (.Name x px) (.Name y py) p2) X.env := by rfl)
    (hfew : ((backTo cpos (starEach [.Name z pz] X.env)).all (fun x => !x.1) && (backToKw cpos (keywordEach [] X.env)).all (fun x => x.1.isSome)
      && decide (([.Name z pz] : List Expr).length + ([] : List Keyword).length + (if ([] : List Keyword).isEmpty then 0 else 1) < 30)) = true := by rfl)
    (hline : (apos.endLine == cpos.line) = true := by rfl) (hs : starEach [.Name z pz] X.env = (false, eval (.Name z pz) X.env) :: starEach [] X.env := by rfl) (hplain : (backTo cpos (starEach [] X.env)).any (·.1) = false := by rfl) :
    PE X (.Call (.Attribute (.Subscript (.Name x px) (.Name y py) p2) "append" apos) [.Name z pz] [] cpos) (tm c (appDM i j k)) :=
  pe_imp (pe_bm F.plainAttrs_list F.slot_list_append F.type_list_append mt_append (pe_dget hu (pe_var hN hv hd hcd) (pe_var hN2 hv2 hd2 hcd2) hs1) (pa_cons (pe_var hN3 hv3 hd3 hcd3) pa_nil) hbase hfew hline hs hplain) fun σ H Q ⟨r, e, yr, n, hx, fin⟩ => by
    unfold appDM at hx
    split at hx
    · rename_i ks l dk d hi hj hk
      split at hx
      · rename_i nd
        split at hx
        · rename_i p hp
          split at hx
          · rename_i m hm
            split at hx
            · rename_i hz
              cases hx
              obtain ⟨v0, hv0⟩ := n.al.al.has i _ hi
              obtain ⟨v1, hv1⟩ := n.al.al.has j _ hj
              obtain ⟨v2, hv2⟩ := n.al.al.has k _ hk
              have w0 : W c.G c.B H (e ++ envI σ r) := n.w
              have mi : (v0, D.dct true (.k ks) l) ∈ e ++ envI σ r := List.mem_append_right _ (List.mem_of_getElem? (envI_get hv0 hi))
              have mj : (v1, dk) ∈ e ++ envI σ r := List.mem_append_right _ (List.mem_of_getElem? (envI_get hv1 hj))
              have mk : (v2, d) ∈ e ++ envI σ r := List.mem_append_right _ (List.mem_of_getElem? (envI_get hv2 hk))
              obtain ⟨a, xs, rfl, h1, c1⟩ := w0.dct mi
              have gt := dget_of w0 h1 mj hp
              have w1 := (w0.add (Cp.of mk nd.1))
              have w2 : W c.G c.B H (((v2, d) :: e) ++ envI σ r) := w1
              have w3 := w2.take n.al.al hv0 hi
              obtain ⟨a3, xs3, b, ys, u1, u2, u3, u4, u5, w5⟩ := W.inner (g := e ++ envI σ (r.set i none)) w3 hm
              cases u1
              have ex : xs3 = xs := DRd.inj (.inl u2) h1
              subst ex
              have e3 : ((some p).bind fun i => xs3[i]?) = some (.ref b) := u3
              rw [e3] at gt
              refine ⟨_, hv0, v1, hv1, a, _, rfl, gt, .inl ⟨rfl, ys, SqL.of u4⟩, v2, hv2, b, ys, v2, rfl, rfl, u4, by rw [u5]; exact Nat.lt_of_lt_of_le hz (lim_ok (Nat.le_refl _)), ?_⟩
              have il : i < (r.set i none).length := by rw [List.length_set]; exact (List.getElem?_eq_some_iff.mp hi).1
              have w6 := w5.put (n.al.al.setR (y := none) fun z => by simp at z) il
              rw [set_self_of hv0, List.set_set] at w6
              exact fin .non _ (n.al.setR hv0) (w6.add (Cp.triv fun F => by simp [Tr]))
            · cases hx
          · cases hx
        · cases hx
      · cases hx
    · cases hx
end Z

set_option Elab.async false
set_option linter.all false
set_option maxRecDepth 100000
set_option maxHeartbeats 4000000
/-! Z23: name = {k: v for ..}. -/
namespace Z
open PySem PySem.Spec PyProof.Rows L2
variable {c : Ctx} {X : Cx} {nio : Nat}
theorem u1 {k : Nat} {A : Around} (hr : Room k A) : A.units + 1 < cLine := by have := hr.units; omega
theorem sw_dict {kx vx : Expr} {gs : List Comprehension} {scope : Scope} {pos py : Pos} {y : Str} {l : Nat} {env : Env} (hk : env.scope.kind = .function) (hy : env.scope.names.lookup y = some .local) (hl : (py.line == pos.line) = true)
    (ha : (scope.names.any fun (n, k) => n == y && (k == .local || k == .cell)) = false) : swapsWith (.DictComp kx vx gs scope pos) (some (.Name y py)) l env = pure true := by
  have ky : env.kindOf y = some .local := hy
  have hb : env.blockKind = .function := by unfold Env.blockKind; rw [hk]; rfl
  unfold swapsWith
  simp only [hb, ky, ha, Expr.pos, hl]
  rfl
theorem ps_asgDc {i : Nat} {y : Str} {py : Pos} {kx vx tg iter : Expr} {scope : Scope} {own : List (Str × Nat)} {pos spos : Pos} {wi : TI} {g : TG} {tt : TT} {tk tv : TE} (hc : X.calm = true) (hN : X.N.Nodup) (hy : X.N[i]? = some y) (hyl : X.env.scope.names.lookup y = some .local)
    (hsw : swapsWith (.DictComp kx vx [⟨tg, iter, [], 0⟩] scope pos) (some (.Name y py)) spos.line X.env = pure true) (hi : PI X tg iter wi) (ok : BlkOk X.N X.env.scope scope own)
    (hg : ∀ (s : Shared) (H : Hp) (C : Addr) (cl : List (Str × Addr)) (fp : List Addr), PG (X.blk s H scope (compEnvC scope cl C X.env) fp) tg g) (ht : ∀ (s : Shared) (H : Hp) (C : Addr) (cl : List (Str × Addr)) (fp : List Addr), PTs (X.blk s H scope (compEnvC scope cl C X.env) fp) [] tt)
    (hk : ∀ (s : Shared) (H : Hp) (C : Addr) (cl : List (Str × Addr)) (fp : List Addr), PE (X.blk s H scope (compEnvC scope cl C X.env) fp) kx tk)
    (he : ∀ (s : Shared) (H : Hp) (C : Addr) (cl : List (Str × Addr)) (fp : List Addr), PE (X.blk s H scope (compEnvC scope cl C X.env) fp) vx tv) (hs : ∀ x, foldedSetIterable iter X.env x = pure x) :
    PS X (.Assign [.Name y py] (.DictComp kx vx [⟨tg, iter, [], 0⟩] scope pos) spos) (tAsg (tDc wi g tt tk tv (own.map (·.2))) (gName i)) := by
  refine ⟨fun pins s σ H D I h => ?_⟩
  rw [exec_Assign_Name_used _ _ _ _ hsw]
  refine wpAny_bind (wpAny_standAt (wpAny_bind ?_))
  show wpAny _ X.A (do let _ ← comprehension (.DictComp kx vx [⟨tg, iter, [], 0⟩] scope pos) scope X.env (firstIterPos [⟨tg, iter, [], 0⟩] pos) newDict false (eval iter X.env) (some (assign (.Name y py) X.env))) _ _ s
  refine wpAny_bind (thn (dc_core (Qf := fun _ s' => SP X pins D .next s') hc hN I hi ok hg ht hk he hs h fun L C s' m H' I' q hn f => ?_) fun _ s' hq => wpAny_pure (wpAny_pure hq))
  show wpAny _ _ (assign (.Name y py) X.env (.ref L)) _ _ _
  refine wpAny_assign_Name (store_ok2 (v := V.ref L) I' hN hy (.inl hyl) rfl (fun s2 I2 ⟨a, sb, ha⟩ => ?_) (.inr hyl))
  obtain ⟨f0, f1, f2, f3, f4, f5⟩ := f
  have haC : C ≠ a := by
    rcases ha with z | z
    · rw [z]; exact f1
    · exact fun e => f4 y a z e.symm
  exact ⟨m, hn.sameBut sb haC, fun h3 sb3 => ⟨_, H', I2.turned (t' := s2.toks) (fun b o hb e => (sb3.2 b hb).trans e) f0 f1 f3 f4 f5, q⟩⟩
theorem z_setDc {x : Str} {py spos : Pos} {kx vx tg iter : Expr} {scope : Scope} {pos : Pos} {src : M Src} {g : MT} {mk mv : M D} (i : Nat) (own : List (Str × Nat)) (hio : ∀ p ∈ c.ios, p.1 < nio) (hc : X.calm = true) (hN : X.N.Nodup) (hi : PI X tg iter (ti c src))
    (hg : ∀ (s : Shared) (H : Hp) (C : Addr) (cl : List (Str × Addr)) (fp : List Addr), PG (X.blk s H scope (compEnvC scope cl C X.env) fp) tg (tG c (own.map (·.2)) g))
    (hk : ∀ (s : Shared) (H : Hp) (C : Addr) (cl : List (Str × Addr)) (fp : List Addr), PE (X.blk s H scope (compEnvC scope cl C X.env) fp) kx (tm c mk))
    (he : ∀ (s : Shared) (H : Hp) (C : Addr) (cl : List (Str × Addr)) (fp : List Addr), PE (X.blk s H scope (compEnvC scope cl C X.env) fp) vx (tm c mv))
    (hf : X.env.scope.kind = .function := by rfl) (hl : (py.line == pos.line) = true := by rfl) (ha : (scope.names.any fun (n, k) => n == x && (k == .local || k == .cell)) = false := by rfl)
    (hx : X.N[i]? = some x := by rfl) (hyl : X.env.scope.names.lookup x = some .local := by rfl)
    (ok : BlkOk X.N X.env.scope scope own := by exact blkOk_by (by rfl)) (hv : ∀ i ∈ own.map (·.2), nio ≤ i := by decide) (h1 : nio ≤ i := by decide) (hs : ∀ x, foldedSetIterable iter X.env x = pure x := by intro _; rfl) :
    PS X (.Assign [.Name x py] (.DictComp kx vx [⟨tg, iter, [], 0⟩] scope pos) spos) (tS c (setS i (dcM (own.map (·.2)) src g mk mv))) :=
  ps_imp (ps_asgDc hc hN hx hyl (sw_dict hf hyl hl ha) hi ok hg (fun _ _ _ _ _ => z_ptsnil) hk he hs) fun N σ H h => dc_red (fun p hp hm => by have := hio p hp; have := hv _ hm; omega) (by
    obtain ⟨r, e, y, n, hx, fin⟩ := h
    rcases bndS_cases hx with ⟨d, r1, h1', h2⟩ | ⟨C, ns, ds, r1, h1', rfl⟩
    · refine ⟨r, e, _, n, h1', fun v H1 a w => ?_⟩
      split at h2
      · rename_i il
        cases h2
        exact fin _ H1 (a.put hio h1) (w.put a.al il)
      · cases h2
    · exact ⟨r, e, _, n, h1', fin σ⟩)
end Z

set_option Elab.async false
set_option linter.all false
set_option maxRecDepth 100000
set_option maxHeartbeats 4000000
/-! Z24: for a, b in f(..).items(). -/
namespace Z
open PySem PySem.Spec PyProof.Rows L2
variable {c : Ctx} {σ : L2.St} {H : Hp} {l : Pend} {r : Rho} {e : List It} {X : Cx} {Q : VK} {N : Ends} {nio : Nat} {G : Cfg} {B : Bs} {g : List It} {F : Addr → Prop} {a : Addr} {o : Obj} {kvs : List (Key × V)}
/-- the dict stays locked: nobody else has it -/
theorem W.leave {u : HO} (w : W G (lkB B a u) H g) (ha : B.H a = none ∨ a ∈ B.io) : W G B H g := by
  obtain ⟨F, O, wf, h⟩ := w
  have ne : ∀ b ∈ O, b ≠ a := fun b hb z => by
    rcases wf.own b hb with q | q
    · rw [z] at q
      have q' : upd B.H a u a = none := q
      rw [upd_same] at q'; cases q'
    · have := (List.mem_filter.mp q).2
      rw [z] at this; simp at this
  refine ⟨F, O, ⟨wf.nd, wf.dj, wf.fd, fun b hb => ?_, fun b hf => ?_, fun b o' hb hi nt => ?_, fun b ps hb hi => ?_, wf.tb⟩, h⟩
  · rcases wf.own b hb with q | q
    · have q' : upd B.H a u b = none := q
      rw [upd_ne (ne b hb)] at q'
      exact .inl q'
    · exact .inr (List.mem_filter.mp q).1
  · by_cases hba : b = a
    · rw [hba]; exact .inr ha
    · rcases wf.fz b hf with (q | q) | q | q
      · exact .inl q
      · exact absurd q hba
      · have q' : upd B.H a u b = none := q
        rw [upd_ne hba] at q'
        exact .inr (.inl q')
      · exact .inr (.inr (List.mem_filter.mp q).1)
  · by_cases hba : b = a
    · rcases ha with q | q
      · rw [hba, q] at hb; cases hb
      · rw [hba] at hi; exact absurd q hi
    · exact wf.keep b o' (by show upd B.H a _ b = _; rw [upd_ne hba]; exact hb) (fun z => hi (List.mem_filter.mp z).1) nt
  · by_cases hba : b = a
    · rcases ha with q | q
      · rw [hba, q] at hb; cases hb
      · rw [hba] at hi; exact absurd q hi
    · exact wf.tbs b ps (by show upd B.H a _ b = _; rw [upd_ne hba]; exact hb) (fun z => hi (List.mem_filter.mp z).1)
def tLk (td : TE) : TE := fun σ H Q => td σ H fun x H1 => ∃ d kvs, x = .ref d ∧ H1 d = some (.dK kvs) ∧ ∀ od, Q x (upd H1 d (.frz od (.dK kvs)))
theorem pe_lk {ex : Expr} {td : TE} (h : PE X ex td) : PE X ex (tLk td) := by
  refine ⟨fun pins s σ H Q I hw => ?_⟩
  refine thn (h.run pins s σ H _ I hw) fun u s1 ⟨x, H1, I1, rx, d, kvs, ex, hd, q⟩ => ?_
  obtain ⟨od, I2⟩ := I1.lock hd trivial
  exact ⟨x, _, I2, rx, q od⟩
theorem pss_ex {ι : Type} {ex : List Stmt} {t : ι → TS} (h : ∀ i, PSs X ex (t i)) : PSs X ex (fun N σ H => ∃ i, t i N σ H) := ⟨fun pins s σ H D I ⟨i, q⟩ => (h i).run pins s σ H D I q⟩
def forItS (m : M D) (g : MT) (b : MS) : MS := bndS m fun d r => match d with
  | .dct true (.k ks) l => forL g b (itemsD ks (freezes l)) r
  | _ => none
theorem z_forIt {ex : Expr} {elts : List Expr} {kk : Nat} {tpos apos cpos pos : Pos} {body : List Stmt} {m : M D} {g : MT} {vs : List Nat} {mb : MS} (hp : PassesOwn (model X.prog X.w) X.A X.env X.xe) (hc : X.calm = true) (he : PE X ex (tm c m))
    (hg : ∀ B' : Bs, PG X (.Tuple elts kk tpos) (tG (c.setB B') vs g)) (hb : ∀ B' : Bs, PSs X body (tS (c.setB B') mb)) (hbase : attributeBase ex "items" X.env (eval ex X.env) = eval ex X.env := by rfl) (hline : (apos.endLine == cpos.line) = true := by rfl)
    (hs : ∀ x, foldedSetIterable (.Call (.Attribute ex "items" apos) [] [] cpos) X.env x = pure x := by intro _; rfl) : PS X (.For (.Tuple elts kk tpos) (.Call (.Attribute ex "items" apos) [] [] cpos) body [] pos) (tS c (forItS m g mb)) :=
  ps_imp (ps_for hp hc (pi_items (pe_lk he) hbase hline) (pg_ex hg) (pss_ex hb) hs) fun N σ H ⟨r, e, x, n, hx, fin⟩ => by
    rcases bndS_cases hx with ⟨d, r1, h1, h2⟩ | ⟨C, ns, ds, r1, h1, rfl⟩
    · refine ⟨r, e, _, n, h1, fun v H1 a w => ?_⟩
      split at h2
      · rename_i ks0 l0
        obtain ⟨a0, kvs, rfl, hu, ek, hB, lk⟩ := w.lockD rfl
        cases ek
        refine ⟨a0, kvs, rfl, hu, fun od => ⟨a0, od, kvs, rfl, upd_same, ?_⟩⟩
        have w3 := lk od
        have no : noOwns (freezes l0) = true := noOwns_freezes l0
        have ln : kvs.length = (freezes l0).length := by
          obtain ⟨a', xs, e1, e2, kd⟩ := w3.dct List.mem_cons_self
          cases e1
          rw [← kd.len]
          rcases e2 with e2 | ⟨o', u, e0, e2⟩
          · have := e2.len; simpa [KK.len] using this
          · have := e2.len; simpa [KK.len] using this
        have jk := jk_items (G := c.G) (B := c.B) (a := a0) (o := od) no ln
        have lv : ∀ {H g}, W c.G (lkB c.B a0 (.frz od (.dK kvs))) H g → W c.G c.B H g := fun w => w.leave hB
        generalize hB' : lkB c.B a0 (.frz od (.dK kvs)) = B' at *
        generalize hkp : [((V.ref a0, D.dct false (.k (kvs.map (·.1))) (freezes l0)) : It)] = kp at *
        generalize hits : itemsD (kvs.map (·.1)) (freezes l0) = items at *
        have w4 : W c.G B' (upd H1 a0 (.frz od (.dK kvs))) (kp ++ (e ++ envI σ r1)) := by rw [← hkp]; exact w3
        have al : ∀ {σ r}, Alx (c.setB B') σ r → Alx c σ r := fun a => ⟨a.al, a.io⟩
        have la : ∀ {σ r}, Alx c σ r → Alx (c.setB B') σ r := fun a => ⟨a.al, a.io⟩
        refine ⟨fun i m σ H => m = items.length - i ∧ i ≤ items.length ∧ ∃ r, Alx c σ r ∧ W c.G B' H (kp ++ (e ++ envI σ r)) ∧ forL g mb (items.drop i) r = some x, ⟨items.length, rfl, Nat.zero_le _, r1, a, w4, h2⟩, ?_⟩
        rintro i m σ H ⟨rfl, hi, r, a, w, hf⟩
        have sub : ∀ q ∈ kp, q ∈ kp ++ (e ++ envI σ r) := fun q hq => List.mem_append_left _ hq
        by_cases hlt : i < items.length
        · refine .inr ⟨jk.go i H _ w sub hlt, fun σ' H' => ∃ r', Alx c σ' r' ∧ W c.G B' H' (kp ++ (e ++ envI σ' r')) ∧ forL g mb (items.drop (i + 1)) r' = some x, fun σ' H' q => ⟨items.length - (i + 1), by omega, rfl, hlt, q⟩, fun xv H' hy => ?_⟩
          rw [List.drop_eq_getElem_cons hlt] at hf
          have w2 := jk.yld i H _ xv H' items[i] w sub (List.getElem?_eq_getElem hlt) hy
          unfold forL at hf
          split at hf
          · rename_i r2 hg2
            refine ⟨B', r, kp ++ e, items[i], r2, la a, show W c.G B' _ _ from by rw [List.append_assoc]; exact w2, hg2, fun σ2 H2 _ a2 w3 => ?_⟩
            cases q : mb r2 with
            | none => rw [q] at hf; cases hf
            | some y =>
              rw [q] at hf
              refine ⟨B', r2, kp ++ e, y, ⟨a2, Vok.nil, w3⟩, q, ?_⟩
              cases y with
              | nx r3 => exact fun σ' H' a w => ⟨r3, al a, by rw [← List.append_assoc]; exact w, hf⟩
              | ct r3 => exact fun σ' H' a w => ⟨r3, al a, by rw [← List.append_assoc]; exact w, hf⟩
              | bk r3 => cases hf; exact fun σ' H' a w => fin σ' H' (al a) (lv (W.drops (l := kp) (show W c.G B' _ _ from by rw [← List.append_assoc]; exact w)))
              | rt d r3 =>
                cases hf
                exact fun v σ' H' a w => fin v σ' H' (al a) (lv (W.drops (l := kp) (show W c.G B' _ _ from W.perm w (by
                  rw [List.append_assoc]
                  exact List.perm_middle.symm))))
              | exc C ns ds r3 =>
                cases hf
                refine fun σ' vs dx H' a hl w hd => fin σ' vs dx H' (al a) hl (lv (W.drops (l := kp) (show W c.G B' _ _ from W.perm w ?_))) hd
                rw [List.append_assoc]
                exact perm_ab _ _ _
          · cases hf
        · have ei : i = items.length := by omega
          subst ei
          rw [List.drop_length] at hf
          cases hf
          exact .inl ⟨jk.stop _ H _ w sub (Nat.le_refl _), fin σ H a (lv (W.drops (l := kp) w))⟩
      · cases h2
    · exact ⟨r, e, _, n, h1, fin σ⟩
end Z

set_option Elab.async false
set_option linter.all false
set_option maxRecDepth 100000
set_option maxHeartbeats 4000000
/-! Z25: d.get(k), d.get(k, x). -/
namespace Z
open PySem PySem.Spec PyProof.Rows L2
variable {c : Ctx} {σ : L2.St} {H : Hp} {l : Pend} {r : Rho} {e : List It} {X : Cx} {Q : VK} {G : Cfg} {B : Bs} {g : List It} {a : Addr}
theorem isd_of {ks : KK} {xs : List V} (h : DRd H a ks xs) : IsD H a := by
  rcases h with (⟨kvs, e, _⟩ | ⟨kvs, e, _⟩) | ⟨o, u, e0, (⟨kvs, e, _⟩ | ⟨kvs, e, _⟩)⟩
  · exact .inl ⟨kvs, .inl e⟩
  · exact .inr ⟨kvs, .inl e⟩
  · cases e; exact .inl ⟨kvs, .inr ⟨o, e0⟩⟩
  · cases e; exact .inr ⟨kvs, .inr ⟨o, e0⟩⟩
def isDct : D → Bool
  | .dct _ _ _ => true
  | _ => false
def getS : List D → Option D
  | [.dct _ ks l, d] => match posD ks d with
    | some (some i) => l[i]?
    | some none => some .non
    | none => none
  | [.dct _ ks l, d, x] => match posD ks d with
    | some (some i) => l[i]?
    | some none => if noOwn x = true then some x else none
    | none => none
  | _ => none
/-- d.get(k) by values -/
theorem get1_op : OpZ true G (fun vs H Q => ∃ x y, vs = [x, y] ∧ ∃ a o, x = .ref a ∧ DGet H a y o ∧ Q (o.getD .non) H) (fun ds => if ds.length = 2 then getS ds else none) := by
  intro B H g vs ds d Q w hl hm hk hf q
  dsimp only at hf
  split at hf
  · rename_i h2
    match ds, vs, h2, hl with
    | [d1, d2], [x, y], _, _ =>
    obtain ⟨m1, m2⟩ := mem2 hm
    have k1 := hk rfl d1 (by simp)
    cases d1 with
    | dct ow ks l =>
      obtain ⟨a, xs, rfl, h1, c1⟩ := w.dct m1
      have no : noOwns l = true := by simpa [kn] using k1
      unfold getS at hf
      dsimp only at hf
      cases hp : posD ks d2 with
      | none => rw [hp] at hf; cases hf
      | some p =>
        rw [hp] at hf
        have gt := dget_of w h1 m2 hp
        refine ⟨_, _, rfl, a, _, rfl, gt, ?_⟩
        cases p with
        | none =>
          cases hf
          exact q _ _ (w.add (Cp.triv fun F => by simp [Tr]))
        | some i =>
          have hi : i < l.length := (List.getElem?_eq_some_iff.mp hf).1
          have hx : xs[i]? = some (xs[i]'(by rw [c1.len]; exact hi)) := List.getElem?_eq_getElem _
          show Q ((xs[i]?).getD .non) H
          rw [hx]
          exact q _ _ (w.add ((c1.kc no).cp i _ d hx hf))
    | _ => simp [getS] at hf
  · cases hf
theorem get2_op : OpZ true G (fun vs H Q => ∃ x y z, vs = [x, y, z] ∧ ∃ a o, x = .ref a ∧ DGet H a y o ∧ Q (o.getD z) H) (fun ds => if ds.length = 3 then getS ds else none) := by
  intro B H g vs ds d Q w hl hm hk hf q
  dsimp only at hf
  split at hf
  · rename_i h2
    match ds, vs, h2, hl with
    | [d1, d2, d3], [x, y, z], _, _ =>
    have m1 : (x, d1) ∈ g := hm _ (by simp)
    have m2 : (y, d2) ∈ g := hm _ (by simp)
    have m3 : (z, d3) ∈ g := hm _ (by simp)
    have k1 := hk rfl d1 (by simp)
    cases d1 with
    | dct ow ks l =>
      obtain ⟨a, xs, rfl, h1, c1⟩ := w.dct m1
      have no : noOwns l = true := by simpa [kn] using k1
      unfold getS at hf
      dsimp only at hf
      cases hp : posD ks d2 with
      | none => rw [hp] at hf; cases hf
      | some p =>
        rw [hp] at hf
        have gt := dget_of w h1 m2 hp
        refine ⟨_, _, _, rfl, a, _, rfl, gt, ?_⟩
        cases p with
        | none =>
          dsimp only at hf
          split at hf
          · rename_i n3
            cases hf
            exact q _ _ (w.add (Cp.of m3 n3))
          · cases hf
        | some i =>
          have hi : i < l.length := (List.getElem?_eq_some_iff.mp hf).1
          have hx : xs[i]? = some (xs[i]'(by rw [c1.len]; exact hi)) := List.getElem?_eq_getElem _
          show Q ((xs[i]?).getD z) H
          rw [hx]
          exact q _ _ (w.add ((c1.kc no).cp i _ d hx hf))
    | _ => simp [getS] at hf
  · cases hf
def get1F (ds : List D) : Option D := if ds.length = 2 then getS ds else none
def get2F (ds : List D) : Option D := if ds.length = 3 then getS ds else none
def getM1 (ma mb : M Opd) : M D := bnd ma fun o r => match opdD r o with
  | some d => if isDct d = true then bnd mb (fun o' => opc true get1F [o, o']) r else none
  | none => none
def getM2 (ma mb mc : M Opd) : M D := bnd ma fun o r => match opdD r o with
  | some d => if isDct d = true then bnd mb (fun o' => bnd mc fun o'' => opc true get2F [o, o', o'']) r else none
  | none => none
theorem isd_opd {o : Opd} {v : V} {d : D} (n : Now c σ H l r e) (m : (v, o) ∈ l) (h : opdD r o = some d) (k : isDct d = true) : ∃ a, v = .ref a ∧ IsD H a := by
  have mm := opd_mem n m h
  cases d with
  | dct ow ks l =>
    obtain ⟨a, xs, e1, h1, _⟩ := n.w.dct mm
    exact ⟨a, e1, isd_of h1⟩
  | _ => cases k
theorem z_get1 {o ex : Expr} {apos cpos : Pos} {ma mb : M Opd} (hu : X.A.units + 1 < cLine) (ha : PE X o (tmo c ma)) (hb : PE X ex (tmo c mb)) (m : M1 X o "get" apos ex cpos := by exact ⟨rfl, rfl, rfl, rfl⟩) : PE X (.Call (.Attribute o "get" apos) [ex] [] cpos) (tm c (getM1 ma mb)) :=
  pe_imp (pe_dget1 hu ha hb m) fun σ H Q h => tmo_mono (tk_bnd h) fun v H1 ⟨o1, r, e, x, n, hx, fin⟩ => by
    dsimp only at hx
    split at hx
    · rename_i d hd
      split at hx
      · rename_i hk
        obtain ⟨a, rfl, isd⟩ := isd_opd n List.mem_cons_self hd hk
        refine ⟨a, rfl, isd, tmo_mono (tk_bnd ⟨r, e, x, n, hx, fin⟩) fun u H2 ⟨o2, h2⟩ => ?_⟩
        obtain ⟨x1, y1, ev, a1, oo, e1, gt, q⟩ := tk_opc get1_op (vs := [.ref a, u]) (os := [o1, o2]) rfl (by simp) h2
        cases ev; cases e1
        exact ⟨oo, gt, q⟩
      · cases hx
    · cases hx
theorem z_get2 {o ex fx : Expr} {apos cpos : Pos} {ma mb mc : M Opd} (hu : X.A.units + 1 < cLine) (ha : PE X o (tmo c ma)) (hb : PE X ex (tmo c mb)) (hf : PE X fx (tmo c mc)) (m : M2 X o "get" apos ex fx cpos := by exact ⟨rfl, rfl, rfl, rfl⟩) : PE X (.Call (.Attribute o "get" apos) [ex, fx] [] cpos) (tm c (getM2 ma mb mc)) :=
  pe_imp (pe_dget2 hu ha hb hf m) fun σ H Q h => tmo_mono (tk_bnd h) fun v H1 ⟨o1, r, e, x, n, hx, fin⟩ => by
    dsimp only at hx
    split at hx
    · rename_i d hd
      split at hx
      · rename_i hk
        obtain ⟨a, rfl, isd⟩ := isd_opd n List.mem_cons_self hd hk
        refine ⟨a, rfl, isd, tmo_mono (tk_bnd ⟨r, e, x, n, hx, fin⟩) fun u H2 ⟨o2, h2⟩ => tmo_mono (tk_bnd h2) fun t H3 ⟨o3, h3⟩ => ?_⟩
        obtain ⟨x1, y1, z1, ev, a1, oo, e1, gt, q⟩ := tk_opc get2_op (vs := [.ref a, u, t]) (os := [o1, o2, o3]) rfl (by simp) h3
        cases ev; cases e1
        exact ⟨oo, gt, q⟩
      · cases hx
    · cases hx
end Z

set_option Elab.async false
set_option linter.all false
set_option maxRecDepth 100000
set_option maxHeartbeats 4000000
/-! Z26: the loops of a dict comprehension with two fors and no tests. -/
namespace Z
open PySem PySem.Spec PyProof.Rows L2
section
variable {prog : Program} {w : World} {A : Around} {R : Result → Shared → Prop} {s : Shared} {kx vx t0 i0 t1 i1 : Expr} {scope : Scope} {pos : Pos} {it acc : Value} {env : Env} {D : Addr}
abbrev dc2E (kx vx t0 i0 t1 i1 : Expr) (scope : Scope) (pos : Pos) : Expr := .DictComp kx vx [⟨t0, i0, [], 0⟩, ⟨t1, i1, [], 0⟩] scope pos
/-- what a fault in the block's loop leads to -/
abbrev faultB (prog : Program) (w : World) (A : Around) (env : Env) (R : Result → Shared → Prop) : Value → Shared → Prop := notedBy (model prog w) A env fun e s' => R (.error e) s'
/-- one turn's store, then K -/
def stored1 (prog : Program) (w : World) (A : Around) (env : Env) (R : Result → Shared → Prop) (tg : Expr) (it v : Value) (K : Shared → Prop) (s : Shared) : Prop :=
  wpAny (model prog w) A (letOwnedTupleGo tg it v) (fun _ s1 => wpAny (model prog w) A (assign tg env v) (fun _ s2 => K s2) (faultB prog w A env R) s1) (faultB prog w A env R) s
theorem d2_outer (hs : ∀ x, foldedSetIterable i1 env x = pure x) (I : Nat → Shared → Prop)
    (turn : ∀ n s, I n s → wpAny (model prog w) A (pyNext it) (fun r s1 => match r with
      | none => R (.ok .next) s1
      | some v => stored1 prog w A env R t0 it v (fun s2 => wpAny (model prog w) A (eval i1 env) (fun x s3 => wpAny (model prog w) A (pyIter x) (fun j s4 =>
          codeAny (model prog w) A (.compStart (dc2E kx vx t0 i0 t1 i1 scope pos) 1 j acc env) (fun r s' => match r with
            | .ok _ => ∃ m, m < n ∧ I m s'
            | .error _ => False) s4) (faultB prog w A env R) s3) (faultB prog w A env R) s2) s1) (faultB prog w A env R) s)
    (n : Nat) (h : I n s) : codeAny (model prog w) A (.compLoop (dc2E kx vx t0 i0 t1 i1 scope pos) 0 it acc env) R s := by
  refine codeAny_loop rfl I (fun n s hI => ?_) n h
  show wpAny _ A ((compTurn (dc2E kx vx t0 i0 t1 i1 scope pos) 0 it acc env).onRaise _) _ _ s
  refine wpAny_noted ?_
  show wpAny _ A (standAt i0.pos >>= fun _ => (pyNext it >>= _)) _ _ s
  refine wpAny_bind (wpAny_standAt (wpAny_bind (wpAny_mono (turn n s hI) (fun r s1 h1 => ?_) fun _ _ h => h)))
  cases r with
  | none => exact wpAny_pure h1
  | some v =>
    refine wpAny_bind (wpAny_mono h1 (fun _ s2 h2 => wpAny_bind (wpAny_mono h2 (fun _ s3 h3 => ?_) fun _ _ h => h)) fun _ _ h => h)
    refine wpAny_bind (wpAny_pure ?_)
    refine wpAny_bind (wpAny_mono h3 (fun x s4 h4 => ?_) fun _ _ h => h)
    refine wpAny_bind (wpAny_standAt (wpAny_bind (wpAny_of_eq (hs x) (wpAny_bind (wpAny_holding (wpAny_mono h4 (fun j s5 h5 => ?_) fun _ _ h => h))))))
    refine wpAny_bind (wpAny_runOwn ?_)
    rw [Around.mark_none]
    refine codeAny_mono h5 fun r s' hr => ?_
    cases r with
    | ok f => first | exact wpAny_pure ⟨rfl, hr⟩ | exact wpAny_bind (wpAny_pure (wpAny_pure ⟨rfl, hr⟩))
    | error e => exact hr.elim
theorem d2_inner (I : Nat → Shared → Prop)
    (turn : ∀ n s, I n s → wpAny (model prog w) A (pyNext it) (fun r s1 => match r with
      | none => R (.ok .next) s1
      | some v => stored1 prog w A env R t1 it v (fun s2 => wpAny (model prog w) A (eval kx env) (fun k s3 => wpAny (model prog w) A (eval vx env) (fun x s4 =>
          wpAny (model prog w) A (dictSet D k x) (fun _ s5 => ∃ m, m < n ∧ I m s5) (faultB prog w A env R) s4) (faultB prog w A env R) s3) (faultB prog w A env R) s2) s1) (faultB prog w A env R) s)
    (n : Nat) (h : I n s) : codeAny (model prog w) A (.compLoop (dc2E kx vx t0 i0 t1 i1 scope pos) 1 it (.ref D) env) R s := by
  refine codeAny_loop rfl I (fun n s hI => ?_) n h
  show wpAny _ A ((compTurn (dc2E kx vx t0 i0 t1 i1 scope pos) 1 it (.ref D) env).onRaise _) _ _ s
  refine wpAny_noted ?_
  show wpAny _ A (standAt i1.pos >>= fun _ => (pyNext it >>= _)) _ _ s
  refine wpAny_bind (wpAny_standAt (wpAny_bind (wpAny_mono (turn n s hI) (fun r s1 h1 => ?_) fun _ _ h => h)))
  cases r with
  | none => exact wpAny_pure h1
  | some v =>
    refine wpAny_bind (wpAny_mono h1 (fun _ s2 h2 => wpAny_bind (wpAny_mono h2 (fun _ s3 h3 => ?_) fun _ _ h => h)) fun _ _ h => h)
    refine wpAny_bind (wpAny_pure ?_)
    exact wpAny_bind (wpAny_bind (wpAny_mono h3 (fun k s4 h4 => wpAny_bind (wpAny_holding (wpAny_mono h4 (fun x s5 h5 => wpAny_bind (wpAny_standAt (wpAny_holding (wpAny_mono h5 (fun _ s6 h6 => wpAny_pure ⟨rfl, h6⟩) fun _ _ h => h)))) fun _ _ h => h))) fun _ _ h => h))
theorem d2_begin (h0 : codeAny (model prog w) A (.compLoop (dc2E kx vx t0 i0 t1 i1 scope pos) 1 it acc env) R s)
    (h : wpAny (model prog w) A (pyIter it) (fun j s' => codeAny (model prog w) A (.compLoop (dc2E kx vx t0 i0 t1 i1 scope pos) 1 j acc env) R s') (faultB prog w A env R) s) :
    codeAny (model prog w) A (.compStart (dc2E kx vx t0 i0 t1 i1 scope pos) 1 it acc env) R s := by
  refine codeAny_of_tree ?_
  show wpAny _ _ ((compStart (dc2E kx vx t0 i0 t1 i1 scope pos) 1 it acc env).onRaise _) _ _ s
  refine wpAny_notedAt ?_
  unfold compStart
  show wpAny _ _ (ask >>= _) _ _ s
  refine wpAny_bind (wpAny_askSetting (wpAny_ite ?_))
  split
  · first
      | exact wpAny_bind (wpAny_pure (wpAny_pure (And.intro rfl h0)))
      | exact wpAny_pure (And.intro rfl h0)
  · first
      | exact wpAny_bind (wpAny_rule (wpAny_bind (wpAny_standAt (wpAny_bind (wpAny_mono h (fun _ _ h' => wpAny_pure (And.intro rfl h')) fun _ _ x => x)))))
      | (refine wpAny_bind (wpAny_rule ?_); show wpAny _ _ (standAt i1.pos >>= _) _ _ s; exact wpAny_bind (wpAny_standAt (wpAny_bind (wpAny_mono h (fun _ _ h' => wpAny_pure (And.intro rfl h')) fun _ _ x => x))))
end
end Z

set_option Elab.async false
set_option linter.all false
set_option maxRecDepth 100000
set_option maxHeartbeats 4000000
/-! Z27: a dict comprehension with two fors, as a value. -/
namespace Z
open PySem PySem.Spec PyProof.Rows L2
theorem d_put {X : Cx} {pins : List (Addr × Obj)} {σ : L2.St} {H H' : Hp} {s : Shared} {E : Value → Shared → Prop} {a : Addr} {y v : V} {u r : Value} {Q : Unit → Shared → Prop} (hu : X.A.units < cLine) (I : Inv X pins σ H s) (g : DPut H a y v H') (ry : RelV y u) (rv : RelV v r)
    (h : ∀ s', Inv X pins σ H' s' → Q () s') : wpAny (model X.prog X.w) X.A (dictSet a u r) Q E s := by
  rcases g with ⟨kvs, k, e, rfl, l, rfl⟩ | ⟨kvs, k, b, e, rfl, eb, l, rfl⟩
  · exact d_dictSet I e l ry rv h
  · cases (show u = Value.ref b from ry)
    obtain ⟨z, hd, xs, rel, dd⟩ := dt_of I.hok e
    have hz : xs.length ≤ sizeLine := by rw [← Paired.length rel]; exact z
    have hl : (putK kvs k v).length ≤ sizeLine := by have := length_putK kvs k v; omega
    refine wpAny_dictSet_heap (hsz := hz) (knd := tupleKind (mixKind X.prog X.w)) hu (key_of I.hok eb) dd fun h' dd' hs => h _ ?_
    obtain ⟨q, es, ep, hq, h2, h3, h4, _, h5⟩ := dd'
    refine d_write I (by rw [e]; exact True.intro) hs ⟨q, hq⟩ ⟨hl, hd, _, (rel.put k eb rv).keeps fun c ys ec => ?_, q, es, ep, hq, h2, h3, h4, h5⟩
    rw [upd_ne (ne_of ec e (fun z => nomatch z))]
    exact ec
/-- an empty dict's object: keys plain, or keys tuples -/
def NoD (ob : HO) : Prop := ob = .dK [] ∨ ob = .dT []
theorem NoD.ok {ob : HO} (x : NoD ob) {P : Program} {w : World} {H : Hp} (h : Heap) (hb : sysModules < h.objs.size) : ObjOk P w H (h.push { cls := .type "dict", data := .dict #[] }) h.objs.size ob := by
  rcases x with rfl | rfl
  · exact dk_empty h hb
  · exact dt_empty h hb
section
variable {Y : Cx} {σ : L2.St} {kx vx t0 i0 t1 i1 : Expr} {scope : Scope} {pos : Pos} {D : Addr}
theorem weakF {M : Model} {A : Around} {α : Type} {x : Sem α} {P Q : α → Shared → Prop} {E F : Value → Shared → Prop} {s : Shared} (hE : ∀ v s, ¬ E v s) (h : wpAny M A x P E s) (k : ∀ v s, P v s → Q v s) : wpAny M A x Q F s :=
  wpAny_mono h k fun v s e => (hE v s e).elim
/-- the inner loop's contract -/
def InnerL (D : Addr) (J1 : L2.It) (g1 : TG) (tk tv : TE) (vs1 : List Nat) (σ2 : L2.St) (Nx : Hp → Prop) (H4 : Hp) : Prop := ∃ U1 : Nat → Nat → Hp → Prop, (∃ m, U1 0 m H4) ∧ ∀ j k H, U1 j k H →
  (J1.stop j H ∧ Nx H) ∨ (J1.go j H ∧ ∃ Nx1 : Hp → Prop, (∀ H', Nx1 H' → ∃ k', k' < k ∧ U1 (j + 1) k' H') ∧ ∀ x H', J1.yld j H x H' → g1 x (wipe σ2 vs1) H' fun σ3 H5 => wipe σ3 vs1 = wipe σ2 vs1 ∧
    tk σ3 H5 fun y H6 => tv σ3 H6 fun z H7 => ∃ H8, DPut H7 D y z H8 ∧ Nx1 H8)
/-- the inner loop, within the block's context Y -/
theorem d2_inside {pins : List (Addr × Obj)} {s : Shared} {H : Hp} {g1 : TG} {tk tv : TE} {vs1 : List Nat} {J1 : L2.It} {fp1 : List Addr} {it1 : Addr} {tn1 : Nat → Heap → Prop} {Nx : Hp → Prop} (hc : Y.calm = true) (hx : ∀ v s, ¬ Y.xe v s) (hu : Y.A.units < cLine)
    (pg1 : PG Y t1 g1) (pk : PE Y kx tk) (pv : PE Y vx tv) (T1 : Turn Y.prog Y.w Y.K t1 J1 fp1 it1 tn1) (st : tn1 0 s.heap) (f : ∀ b ∈ fp1, FpOk Y pins H b) (I : Inv Y pins σ H s) (q : InnerL D J1 g1 tk tv vs1 σ Nx H) :
    codeAny (model Y.prog Y.w) Y.A (.compLoop (dc2E kx vx t0 i0 t1 i1 scope pos) 1 (.ref it1) (.ref D) Y.env) (fun r s' => match r with
      | .ok _ => ∃ H', Inv Y pins (wipe σ vs1) H' s' ∧ Nx H'
      | .error _ => False) s := by
  obtain ⟨U1, ⟨m1, u0⟩, turn⟩ := q
  have fix : ∀ {H' : Hp}, (∀ b ∈ fp1, H' b = none) → ∀ b ∈ fp1, FpOk Y pins H' b := fun hn b hb => ⟨hn b hb, (f b hb).2⟩
  refine d2_inner (fun k s' => ∃ j H', Inv Y pins (wipe σ vs1) H' s' ∧ tn1 j s'.heap ∧ (∀ b ∈ fp1, H' b = none) ∧ U1 j k H') ?_ m1 ⟨0, H, I.weak (wipe_length _ _) (fun j v e => (wipe_some e).1), st, fun b hb => (f b hb).1, u0⟩
  rintro k s1 ⟨j, H1, I1, st1, n1, u1⟩
  rcases turn j k H1 u1 with ⟨stop, nx⟩ | ⟨go, Nx1, hNx, step⟩
  · refine thnF (T1.done Y rfl rfl rfl hc j _ s1 (wipe σ vs1) H1 (fun _ _ => False) I1 (fix n1) st1 stop) fun r s2 ⟨hr, I2⟩ => ?_
    subst hr
    exact ⟨H1, I2, nx⟩
  · refine thnF (T1.item Y rfl rfl rfl hc j _ s1 (wipe σ vs1) H1 (fun _ _ => False) I1 (fix n1) st1 go) fun r s2 ⟨u, hr, h2⟩ => ?_
    subst hr
    refine thnF h2 fun _ s3 ⟨x, H3, I3, r3, y3, st3, n3⟩ => ?_
    have P3 := I3.pinned (fix n3) (T1.obj _ _ st3)
    refine weakF hx (pg1.run _ s3 (wipe σ vs1) H3 x u _ P3 r3 (step x H3 y3)) fun _ s4 ⟨σ4, H4, I4, hw, q4⟩ => ?_
    refine weakF hx (pk.run _ s4 σ4 H4 _ I4 q4) fun kv s5 ⟨yk, H5, I5, r5, q5⟩ => ?_
    refine weakF hx (pv.run _ s5 σ4 H5 _ I5 q5) fun vv s6 ⟨yv, H6, I6, r6, H8, put, nx⟩ => ?_
    refine d_put hu I6 put r5 r6 fun s7 I7 => ?_
    obtain ⟨k', hk, u'⟩ := hNx H8 nx
    have pin : ∀ b ∈ fp1, ∀ o, s3.heap.get? b = some o → s7.heap.get? b = some o ∧ H8 b = none := fun b hb o e =>
      let z := I7.pin (b, o) (List.mem_append_right _ (List.mem_append_right _ (mem_pinsAt hb e)))
      ⟨z.1, z.2.1⟩
    refine ⟨k', hk, j + 1, H8, I7.unpinned.weak (by rw [← hw, wipe_length]) (fun j v e => by rw [← hw] at e; exact (wipe_some e).1), T1.keep _ _ _ st3 fun b hb o e => (pin b hb o e).1, fun b hb => ?_, u'⟩
    obtain ⟨o, e, _⟩ := T1.obj _ _ st3 b hb
    exact (pin b hb o e).2
/-- the outer loop's contract -/
def OuterL (D : Addr) (J : L2.It) (g : TG) (wi1 : TI) (g1 : TG) (tk tv : TE) (vs vs1 : List Nat) (σ : L2.St) (QD : Hp → Prop) (H0 : Hp) : Prop := ∃ U : Nat → Nat → Hp → Prop, (∃ m, U 0 m H0) ∧ ∀ i m H, U i m H →
  (J.stop i H ∧ QD H) ∨ (J.go i H ∧ ∃ Nx : Hp → Prop, (∀ H', Nx H' → ∃ m', m' < m ∧ U (i + 1) m' H') ∧ ∀ x H', J.yld i H x H' → g x (wipe σ vs) H' fun σ2 H2 => wipe σ2 vs = wipe σ vs ∧
    wi1 σ2 H2 fun J1 H4 => InnerL D J1 g1 tk tv vs1 σ2 Nx H4)
/-- {k: v for t0 in i0 for t1 in i1}; ob: the empty dict -/
def tDc2 (ob : HO) (wi : TI) (g : TG) (wi1 : TI) (g1 : TG) (tk tv : TE) (vs vs1 : List Nat) : TE := fun σ H Q => wi σ H fun J H1 => ∀ D, H1 D = none → OuterL D J g wi1 g1 tk tv vs vs1 σ (Q (.ref D)) (upd H1 D ob)
theorem d2_around {pins : List (Addr × Obj)} {s : Shared} {H : Hp} {g : TG} {wi1 : TI} {g1 : TG} {tk tv : TE} {vs vs1 : List Nat} {J : L2.It} {fp : List Addr} {it : Addr} {tn : Nat → Heap → Prop} {QD : Hp → Prop} (hc : Y.calm = true) (hx : ∀ v s, ¬ Y.xe v s) (hu : Y.A.units < cLine)
    (hs1 : ∀ x, foldedSetIterable i1 Y.env x = pure x) (hv : ∀ i ∈ vs1, i ∈ vs) (pg : PG Y t0 g) (pi1 : PI Y t1 i1 wi1) (pg1 : PG Y t1 g1) (pk : PE Y kx tk) (pv : PE Y vx tv)
    (T : Turn Y.prog Y.w Y.K t0 J fp it tn) (st : tn 0 s.heap) (f : ∀ b ∈ fp, FpOk Y pins H b) (I : Inv Y pins (wipe σ vs) H s) (q : OuterL D J g wi1 g1 tk tv vs vs1 σ QD H) :
    codeAny (model Y.prog Y.w) Y.A (.compLoop (dc2E kx vx t0 i0 t1 i1 scope pos) 0 (.ref it) (.ref D) Y.env) (fun r s' => match r with
      | .ok _ => ∃ H', Inv Y pins (wipe σ vs) H' s' ∧ QD H'
      | .error _ => False) s := by
  obtain ⟨U, ⟨m0, u0⟩, turn⟩ := q
  have fix : ∀ {H' : Hp}, (∀ b ∈ fp, H' b = none) → ∀ b ∈ fp, FpOk Y pins H' b := fun hn b hb => ⟨hn b hb, (f b hb).2⟩
  refine d2_outer hs1 (fun n s' => ∃ i H', Inv Y pins (wipe σ vs) H' s' ∧ tn i s'.heap ∧ (∀ b ∈ fp, H' b = none) ∧ U i n H') ?_ m0 ⟨0, H, I, st, fun b hb => (f b hb).1, u0⟩
  rintro n s1 ⟨i, H1, I1, st1, n1, u1⟩
  rcases turn i n H1 u1 with ⟨stop, nx⟩ | ⟨go, Nx, hNx, step⟩
  · refine thnF (T.done Y rfl rfl rfl hc i _ s1 (wipe σ vs) H1 (fun _ _ => False) I1 (fix n1) st1 stop) fun r s2 ⟨hr, I2⟩ => ?_
    subst hr
    exact ⟨H1, I2, nx⟩
  · refine thnF (T.item Y rfl rfl rfl hc i _ s1 (wipe σ vs) H1 (fun _ _ => False) I1 (fix n1) st1 go) fun r s2 ⟨u, hr, h2⟩ => ?_
    subst hr
    refine thnF h2 fun _ s3 ⟨x, H3, I3, r3, y3, st3, n3⟩ => ?_
    have P3 := I3.pinned (fix n3) (T.obj _ _ st3)
    refine weakF hx (pg.run _ s3 (wipe σ vs) H3 x u _ P3 r3 (step x H3 y3)) fun _ s4 ⟨σ4, H4, I4, hw, q4⟩ => ?_
    refine weakF hx (pi1.run _ s4 σ4 H4 _ I4 q4) fun xv s5 h5 => weakF hx h5 fun itv s6 h6 => ?_
    obtain ⟨it1, fp1, tn1, J1, H6, rfl, I6, T1, st6, f6, q6⟩ := h6
    have L := d2_inside (t0 := t0) (i0 := i0) (t1 := t1) (i1 := i1) (kx := kx) (vx := vx) (scope := scope) (pos := pos) (D := D) hc hx hu pg1 pk pv T1 st6 f6 I6 q6
    have L2 := codeAny_mono (R' := fun r s' => match r with
      | .ok _ => ∃ m, m < n ∧ ∃ i H', Inv Y pins (wipe σ vs) H' s' ∧ tn i s'.heap ∧ (∀ b ∈ fp, H' b = none) ∧ U i m H'
      | .error _ => False) L fun r s7 hr => by
        cases r with
        | error e => exact hr
        | ok fl =>
          obtain ⟨H7, I7, nx⟩ := hr
          obtain ⟨m', hm, u'⟩ := hNx H7 nx
          have pin : ∀ b ∈ fp, ∀ o, s3.heap.get? b = some o → s7.heap.get? b = some o ∧ H7 b = none := fun b hb o e =>
            let z := I7.pin (b, o) (List.mem_append_right _ (List.mem_append_right _ (mem_pinsAt hb e)))
            ⟨z.1, z.2.1⟩
          refine ⟨m', hm, i + 1, H7, I7.unpinned.weak (by rw [wipe_length, wipe_length, ← wipe_length σ4 vs, hw, wipe_length]) (fun j v e => ?_), T.keep _ _ _ st3 fun b hb o e => (pin b hb o e).1, fun b hb => ?_, u'⟩
          · rw [← hw] at e
            obtain ⟨e1, e2⟩ := wipe_some e
            rw [wipe_out fun z => e2 (hv j z)]
            exact e1
          · obtain ⟨o, e, _⟩ := T.obj _ _ st3 b hb
            exact (pin b hb o e).2
    exact d2_begin L2 (T1.self Y.A 0 _ _ _ st6 L2)
end
end Z

set_option Elab.async false
set_option linter.all false
set_option maxRecDepth 100000
set_option maxHeartbeats 4000000
/-! Z28: a dict comprehension with two fors: the block, the value. -/
namespace Z
open PySem PySem.Spec PyProof.Rows L2
theorem pe_dc2 {X : Cx} {ob : HO} {kx vx t0 i0 t1 i1 : Expr} {scope : Scope} {own : List (Str × Nat)} {vs1 : List Nat} {pos : Pos} {wi wi1 : TI} {g g1 : TG} {tk tv : TE} (hc : X.calm = true) (hN : X.N.Nodup) (hu : X.A.units < cLine) (nd : NoD ob) (hi : PI X t0 i0 wi)
    (ok : BlkOk X.N X.env.scope scope own) (hv : ∀ i ∈ vs1, i ∈ own.map (·.2))
    (hg : ∀ (s : Shared) (H : Hp) (C : Addr) (cl : List (Str × Addr)) (fp : List Addr), PG (X.blk s H scope (compEnvC scope cl C X.env) fp) t0 g)
    (hi1 : ∀ (s : Shared) (H : Hp) (C : Addr) (cl : List (Str × Addr)) (fp : List Addr), PI (X.blk s H scope (compEnvC scope cl C X.env) fp) t1 i1 wi1)
    (hg1 : ∀ (s : Shared) (H : Hp) (C : Addr) (cl : List (Str × Addr)) (fp : List Addr), PG (X.blk s H scope (compEnvC scope cl C X.env) fp) t1 g1)
    (hk : ∀ (s : Shared) (H : Hp) (C : Addr) (cl : List (Str × Addr)) (fp : List Addr), PE (X.blk s H scope (compEnvC scope cl C X.env) fp) kx tk)
    (he : ∀ (s : Shared) (H : Hp) (C : Addr) (cl : List (Str × Addr)) (fp : List Addr), PE (X.blk s H scope (compEnvC scope cl C X.env) fp) vx tv)
    (hs : ∀ x, foldedSetIterable i0 X.env x = pure x) (hs1 : ∀ env x, foldedSetIterable i1 env x = pure x) :
    PE X (dc2E kx vx t0 i0 t1 i1 scope pos) (tDc2 ob wi g wi1 g1 tk tv (own.map (·.2)) vs1) := by
  refine ⟨fun pins s σ H Q I h => ?_⟩
  rw [arm_eval_DictComp]
  have hfree : ∀ y ∈ scope.names, y.2 = .free → ∃ c, X.env.cells.lookup y.1 = some c := fun y hy e => (ok.free y hy e).elim (fun k => I.ok.has _ (.inl k)) fun k => I.ok.has _ (.inr k)
  refine wpAny_comprehension_free rfl hs (closure_ok hfree) ok.kind (fun y hy e => by rw [ok.uniq y hy, e]) (thn (hi.run pins s σ H _ I h) fun xv s1 hx => thn hx fun itv s2 h2 => ?_)
  obtain ⟨it, fp, tn, J, H2, rfl, I2, T, st2, f2, q⟩ := h2
  refine wpAny_newObj_type (newEnv_comp ?_)
  generalize hD : s2.heap.objs.size = D
  have q := q D (I2.hok.fresh (Nat.le_of_eq hD))
  generalize hs3 : ({ s2 with heap := s2.heap.push { cls := .type "dict", data := .dict #[] } } : Shared) = s3
  have h3 : s3.heap = s2.heap.push { cls := .type "dict", data := .dict #[] } := by rw [← hs3]
  have kp : ∀ b o, s2.heap.get? b = some o → s3.heap.get? b = some o := fun b o e => by rw [h3]; exact Heap.get?_push_of_some _ e
  have I3 : Inv X pins σ (upd H2 D ob) s3 := by
    rw [← hs3]
    refine I2.laid (t' := s2.toks) (fun b o e => Heap.get?_push_of_some _ e) (Nat.le_of_eq hD) ?_
    rw [← hD]
    exact nd.ok s2.heap I2.big
  have f3 : ∀ b ∈ fp, FpOk X pins (upd H2 D ob) b ∧ b < s3.heap.objs.size := fun b hb => by
    obtain ⟨o, e, _⟩ := T.obj _ _ st2 b hb
    have lt := Heap.lt_size e
    refine ⟨⟨?_, (f2 b hb).2⟩, Heap.lt_size (kp b o e)⟩
    rw [upd_ne (by rw [← hD]; exact Nat.ne_of_lt lt)]
    exact (f2 b hb).1
  have st3 : tn 0 s3.heap := T.keep _ _ _ st2 fun b _ o e => kp b o e
  have I4 := block_start I3 ok hN f3
  generalize hH3 : upd H2 D ob = H3 at I3 I4 q f3
  show codeAny _ _ (.compStart (dc2E kx vx t0 i0 t1 i1 scope pos) 0 (.ref it) (.ref D) (compEnvC scope (cellsFrom (s3.heap.objs.size + 1) scope.names (cloFrom X.env.cells scope.names [])) s3.heap.objs.size X.env)) (compPost (model X.prog X.w) X.A X.xe none _ (.ref D) s3.heap.objs.size) { s3 with heap := pushCells (s3.heap.push { cls := .type "dict", data := .dict #[] }) scope.names }
  have st4 : tn 0 (pushCells (s3.heap.push { cls := .type "dict", data := .dict #[] }) scope.names) := T.keep _ _ _ st3 fun b _ o e => pushCells_keeps _ _ _ _ (Heap.get?_push_of_some _ e)
  have fb : ∀ b ∈ fp, FpOk (X.blk s3 H3 scope (compEnvC scope (cellsFrom (s3.heap.objs.size + 1) scope.names (cloFrom X.env.cells scope.names [])) s3.heap.objs.size X.env) fp) [] H3 b := fun b hb =>
    ⟨(f3 b hb).1.1, (I4.ok.exf b hb).1, I4.ok.exfs b hb, .inl hb, fun x c e => (I4.ok.exf b hb).2 x c e, fun p hp => absurd (show p ∈ ([] : List (Addr × Obj)) ++ [] from hp) (by simp)⟩
  have L := d2_around (Y := X.blk s3 H3 scope (compEnvC scope (cellsFrom (s3.heap.objs.size + 1) scope.names (cloFrom X.env.cells scope.names [])) s3.heap.objs.size X.env) fp)
    (kx := kx) (vx := vx) (t0 := t0) (i0 := i0) (t1 := t1) (i1 := i1) (scope := scope) (pos := pos) (D := D) hc (fun _ _ e => e) hu (hs1 _) hv (hg _ _ _ _ _) (hi1 _ _ _ _ _) (hg1 _ _ _ _ _) (hk _ _ _ _ _) (he _ _ _ _ _) T st4 fb I4 q
  have L2 := codeAny_mono (R' := compPost (model X.prog X.w) X.A X.xe none (EP X pins σ Q) (.ref D) s3.heap.objs.size) L fun r s5 hr => by
    cases r with
    | error e => exact hr.elim
    | ok fl =>
      obtain ⟨H5, I5, q5⟩ := hr
      have I6 : Inv X pins σ H5 s5 := I3.call' (ch := fp) I5.os I5.base I5.hok I5.bare fun b hb => ⟨(f3 b hb).1.2.2.2.1, (f3 b hb).1.2.1, (f3 b hb).1.2.2.2.2.1, (f3 b hb).1.2.2.2.2.2⟩
      have nC : H5 s3.heap.objs.size = none := I5.free
      obtain ⟨m, hn, _⟩ := I5.loc
      obtain ⟨f0, f1, f2, f3, f4, f5⟩ := I3.fpOk (Nat.le_refl _) nC
      exact ⟨m, hn, fun h'' sb => ⟨.ref D, H5, I6.turned (t' := s5.toks) (fun b o hb e => (sb.2 b hb).trans e) f0 f1 f3 f4 f5, rfl, q5⟩⟩
  exact codeAny_compStart_dict L2 (T.self X.A 0 _ _ _ st4 L2)
end Z

set_option Elab.async false
set_option linter.all false
set_option maxRecDepth 100000
set_option maxHeartbeats 4000000
/-! Z29: a dict comprehension with two fors, on trees. -/
namespace Z
open PySem PySem.Spec PyProof.Rows L2
variable {c : Ctx} {σ : L2.St} {H : Hp} {l : Pend} {r : Rho} {e : List It} {X : Cx} {Q : VK} {N : Ends} {nio : Nat}
def dc2I (vs1 : List Nat) (g1 : MT) (mk mv : M D) : List D → Rho → KK → List D → Option (KK × List D × Rho)
  | [], r, ks, l => some (ks, l, r)
  | d :: ds, r, ks, l => match g1 d r with
    | some r1 => (match mk r1 with
      | some (.ok k r2) => (match mv r2 with
        | some (.ok x r3) => (match putD ks l k x with
          | some p => dc2I vs1 g1 mk mv ds (wipeR r3 vs1) p.1 p.2
          | none => none)
        | _ => none)
      | _ => none)
    | none => none
def dc2L (vs : List Nat) (g : MT) (src1 : M Src) (vs1 : List Nat) (g1 : MT) (mk mv : M D) : List D → Rho → KK → List D → Option (KK × List D × Rho)
  | [], r, ks, l => some (ks, l, r)
  | d :: ds, r, ks, l => match g d r with
    | some r1 => (match src1 r1 with
      | some (.ok p1 r2) => (match dc2I vs1 g1 mk mv p1.2 (wipeR r2 vs1) ks l with
        | some p => dc2L vs g src1 vs1 g1 mk mv ds (wipeR p.2.2 vs) p.1 p.2.1
        | none => none)
      | _ => none)
    | none => none
/-- the empty dict's object, by its kind of keys -/
def obK : KK → HO
  | .k _ => .dK []
  | .t _ => .dT []
def noK (tup : Bool) : KK := if tup then .t [] else .k []
theorem noK_ho (tup : Bool) : DHo (some (obK (noK tup))) (noK tup) [] := by
  cases tup
  · exact .inl ⟨[], rfl, rfl, rfl, List.nodup_nil⟩
  · exact .inr ⟨[], rfl, rfl, rfl, List.nodup_nil⟩
theorem noK_no (tup : Bool) : NoD (obK (noK tup)) := by
  cases tup
  · exact .inl rfl
  · exact .inr rfl
def dc2M (tup : Bool) (vs : List Nat) (src : M Src) (g : MT) (src1 : M Src) (vs1 : List Nat) (g1 : MT) (mk mv : M D) : M D := bnd src fun p r => match dc2L vs g src1 vs1 g1 mk mv p.2 (wipeR r vs) (noK tup) [] with
  | some p => some (.ok (.dct true p.1 p.2.1) p.2.2)
  | none => none
theorem dc2_red {tup : Bool} {src src1 : M Src} {g g1 : MT} {mk mv : M D} {vs vs1 : List Nat} (hs : ∀ i ∈ vs1, i ∈ vs) (hv : ∀ p ∈ c.ios, p.1 ∉ vs) (hv1 : ∀ p ∈ c.ios, p.1 ∉ vs1) (h : tm c (dc2M tup vs src g src1 vs1 g1 mk mv) σ H Q) :
    tDc2 (obK (noK tup)) (ti c src) (tG c vs g) (ti c src1) (tG c vs1 g1) (tm c mk) (tm c mv) vs vs1 σ H Q := by
  obtain ⟨r, e, x, n, hx, fin⟩ := h
  rcases bnd_cases hx with ⟨p, r1, h1, h2⟩ | ⟨C, ns, ds, r1, h1, rfl⟩
  · refine ⟨r, e, _, n, h1, fun J us H1 hl a w jk Dd hD => ?_⟩
    try dsimp only at h2
    split at h2
    · rename_i pF hlc
      obtain ⟨ksF, lF, r9⟩ := pF
      cases h2
      have wD : W c.G c.B (upd H1 Dd (obK (noK tup))) ((.ref Dd, .dct true (noK tup) []) :: (us.zip p.1 ++ (e ++ envI σ r1))) := (w.new hD).closeD (xs := []) (l := []) rfl (noK_ho tup)
      have wD' : W c.G c.B (upd H1 Dd (obK (noK tup))) (((.ref Dd, .dct true (noK tup) []) :: (us.zip p.1 ++ e)) ++ envI σ r1) := by
        show W c.G c.B _ ((V.ref Dd, D.dct true (noK tup) []) :: ((us.zip p.1 ++ e) ++ envI σ r1))
        rw [List.append_assoc]; exact wD
      refine ⟨fun i m' H => m' = p.2.length - i ∧ i ≤ p.2.length ∧ ∃ r ks l, Alx c (wipe σ vs) r ∧ envI (wipe σ vs) r = envI σ r ∧ W c.G c.B H ((.ref Dd, .dct true ks l) :: (us.zip p.1 ++ (e ++ envI (wipe σ vs) r))) ∧ dc2L vs g src1 vs1 g1 mk mv (p.2.drop i) r ks l = some (ksF, lF, r9),
        ⟨p.2.length, rfl, Nat.zero_le _, wipeR r1 vs, _, [], a.wipe hv, env_wipe, ?_, hlc⟩, ?_⟩
      · have := W.wipe (vs := vs) wD' a.al
        simpa [List.append_assoc] using this
      · rintro i m' H ⟨rfl, hi, r, ks, l, a, ew, w, hf⟩
        have sub : ∀ q ∈ us.zip p.1, q ∈ (V.ref Dd, D.dct true ks l) :: (us.zip p.1 ++ (e ++ envI (wipe σ vs) r)) := fun q hq => List.mem_cons_of_mem _ (List.mem_append_left _ hq)
        by_cases hlt : i < p.2.length
        · refine .inr ⟨jk.go i H _ w sub hlt, fun H' => ∃ r ks l, Alx c (wipe σ vs) r ∧ envI (wipe σ vs) r = envI σ r ∧ W c.G c.B H' ((.ref Dd, .dct true ks l) :: (us.zip p.1 ++ (e ++ envI (wipe σ vs) r))) ∧ dc2L vs g src1 vs1 g1 mk mv (p.2.drop (i + 1)) r ks l = some (ksF, lF, r9),
            fun H' q => ⟨p.2.length - (i + 1), by omega, rfl, hlt, q⟩, fun xv H' hy => ?_⟩
          rw [List.drop_eq_getElem_cons hlt] at hf
          have w2 := jk.yld i H _ xv H' p.2[i] w sub (List.getElem?_eq_getElem hlt) hy
          unfold dc2L at hf
          split at hf
          · rename_i r2 hg2
            refine ⟨r, (.ref Dd, .dct true ks l) :: (us.zip p.1 ++ e), p.2[i], r2, a, by simpa [List.append_assoc] using w2, hg2, fun σ2 H2 wp a2 w3 => ⟨by rw [wp, wipe_idem], ?_⟩⟩
            have wp2 : wipe σ2 vs = wipe σ vs := by rw [wp, wipe_idem]
            split at hf
            · rename_i p1 r3 hsrc
              split at hf
              · rename_i pp hin
                obtain ⟨ks8, l8, r8⟩ := pp
                dsimp only at hf
                refine ⟨r2, (.ref Dd, .dct true ks l) :: (us.zip p.1 ++ e), _, ⟨a2, Vok.nil, w3⟩, hsrc, fun J1 us1 H4 hl1 a4 w5 jk1 => ?_⟩
                have w5' : W c.G c.B H4 (((.ref Dd, .dct true ks l) :: (us1.zip p1.1 ++ (us.zip p.1 ++ e))) ++ envI σ2 r3) := by
                  refine w5.perm ?_
                  simp only [List.cons_append, List.append_assoc]
                  exact List.perm_middle
                refine ⟨fun j k H => k = p1.2.length - j ∧ j ≤ p1.2.length ∧ ∃ r kj lj, Alx c (wipe σ2 vs1) r ∧ envI (wipe σ2 vs1) r = envI σ2 r ∧ W c.G c.B H ((.ref Dd, .dct true kj lj) :: (us1.zip p1.1 ++ ((us.zip p.1 ++ e) ++ envI (wipe σ2 vs1) r))) ∧ dc2I vs1 g1 mk mv (p1.2.drop j) r kj lj = some (ks8, l8, r8),
                  ⟨p1.2.length, rfl, Nat.zero_le _, wipeR r3 vs1, ks, l, a4.wipe hv1, env_wipe, ?_, hin⟩, ?_⟩
                · have := W.wipe (vs := vs1) w5' a4.al
                  simpa [List.append_assoc] using this
                · rintro j k H ⟨rfl, hj, rj, kj, lj, aj, ewj, wj, hfj⟩
                  have subj : ∀ q ∈ us1.zip p1.1, q ∈ (V.ref Dd, D.dct true kj lj) :: (us1.zip p1.1 ++ ((us.zip p.1 ++ e) ++ envI (wipe σ2 vs1) rj)) := fun q hq => List.mem_cons_of_mem _ (List.mem_append_left _ hq)
                  by_cases hlj : j < p1.2.length
                  · refine .inr ⟨jk1.go j H _ wj subj hlj, fun H' => ∃ r kj lj, Alx c (wipe σ2 vs1) r ∧ envI (wipe σ2 vs1) r = envI σ2 r ∧ W c.G c.B H' ((.ref Dd, .dct true kj lj) :: (us1.zip p1.1 ++ ((us.zip p.1 ++ e) ++ envI (wipe σ2 vs1) r))) ∧ dc2I vs1 g1 mk mv (p1.2.drop (j + 1)) r kj lj = some (ks8, l8, r8),
                      fun H' q => ⟨p1.2.length - (j + 1), by omega, rfl, hlj, q⟩, fun xw H' hyj => ?_⟩
                    rw [List.drop_eq_getElem_cons hlj] at hfj
                    have w6 := jk1.yld j H _ xw H' p1.2[j] wj subj (List.getElem?_eq_getElem hlj) hyj
                    unfold dc2I at hfj
                    split at hfj
                    · rename_i q2 hgj
                      refine ⟨rj, (.ref Dd, .dct true kj lj) :: (us1.zip p1.1 ++ (us.zip p.1 ++ e)), p1.2[j], q2, aj, by simpa [List.append_assoc] using w6, hgj, fun σ3 H5 wpj a5 w7 => ⟨by rw [wpj, wipe_idem], ?_⟩⟩
                      have wpj2 : wipe σ3 vs1 = wipe σ2 vs1 := by rw [wpj, wipe_idem]
                      split at hfj
                      · rename_i kd r4 hmk
                        split at hfj
                        · rename_i y r5 hmv
                          split at hfj
                          · rename_i pp hput
                            obtain ⟨kn, ln'⟩ := pp
                            dsimp only at hfj
                            refine ⟨q2, (.ref Dd, .dct true kj lj) :: (us1.zip p1.1 ++ (us.zip p.1 ++ e)), _, ⟨a5, Vok.nil, w7⟩, hmk, fun kv H6 a6 w8 => ?_⟩
                            refine ⟨r4, (kv, kd) :: ((.ref Dd, .dct true kj lj) :: (us1.zip p1.1 ++ (us.zip p.1 ++ e))), _, ⟨a6, Vok.nil, w8⟩, hmv, fun yv H7 a7 w9 => ?_⟩
                            have w10 : W c.G c.B H7 ((.ref Dd, .dct true kj lj) :: ((yv, y) :: ((kv, kd) :: ((us1.zip p1.1 ++ (us.zip p.1 ++ e)) ++ envI σ3 r5)))) := by
                              refine w9.perm ?_
                              simp only [List.cons_append]
                              exact (List.Perm.cons _ (List.Perm.swap _ _ _)).trans (List.Perm.swap _ _ _)
                            obtain ⟨b, zs, e1, e2, lnz, wo⟩ := w10.openD
                            cases e1
                            obtain ⟨o', xs', q1, q3, q4, q5⟩ := put_ho (vv := yv) w10 (List.mem_cons_of_mem _ (List.mem_cons_of_mem _ List.mem_cons_self)) e2 lnz hput
                            have w11 := W.setD (j := 0) wo lnz q3 q4 q5
                            have w12 : W c.G c.B (upd H7 Dd o') (((.ref Dd, .dct true kn ln') :: (us1.zip p1.1 ++ (us.zip p.1 ++ e))) ++ envI σ3 r5) := (w11.perm (List.Perm.swap _ _ _)).drop
                            refine ⟨_, q1, wipeR r5 vs1, kn, ln', by rw [← wpj2]; exact a7.wipe hv1, env_wipe, ?_, hfj⟩
                            have := W.wipe (vs := vs1) w12 a7.al
                            rw [wpj2] at this
                            simpa [List.append_assoc] using this
                          · cases hfj
                        · cases hfj
                      · cases hfj
                    · cases hfj
                  · have ej : j = p1.2.length := by omega
                    subst ej
                    rw [List.drop_length] at hfj
                    cases hfj
                    refine .inl ⟨jk1.stop _ H _ wj subj (Nat.le_refl _), wipeR r8 vs, ks8, l8, ?_, env_wipe, ?_, hf⟩
                    · have := aj.wipe hv
                      rw [wipe_sub hs, wp2] at this
                      exact this
                    · have w12 : W c.G c.B H (((.ref Dd, .dct true ks8 l8) :: (us.zip p.1 ++ e)) ++ envI (wipe σ2 vs1) r8) := W.drops (l := us1.zip p1.1) (wj.perm List.perm_middle.symm)
                      have := W.wipe (vs := vs) w12 aj.al
                      rw [wipe_sub hs, wp2] at this
                      simpa [List.append_assoc] using this
              · cases hf
            · cases hf
          · cases hf
        · have ei : i = p.2.length := by omega
          subst ei
          rw [List.drop_length] at hf
          cases hf
          refine .inl ⟨jk.stop _ H _ w sub (Nat.le_refl _), fin _ H (a.unwipe hv) ?_⟩
          rw [ew] at w
          exact W.drops (l := us.zip p.1) (w.perm List.perm_middle.symm)
    · cases h2
  · exact ⟨r, e, _, n, h1, fin⟩
theorem z_dc2 {tup : Bool} {kx vx tg iter tg1 iter1 : Expr} {scope : Scope} {pos : Pos} {src src1 : M Src} {g g1 : MT} {mk mv : M D} (own : List (Str × Nat)) (vs1 : List Nat) (hio : ∀ p ∈ c.ios, p.1 < nio) (hc : X.calm = true) (hu : X.A.units < cLine) (hN : X.N.Nodup) (hi : PI X tg iter (ti c src))
    (hg : ∀ (s : Shared) (H : Hp) (C : Addr) (cl : List (Str × Addr)) (fp : List Addr), PG (X.blk s H scope (compEnvC scope cl C X.env) fp) tg (tG c (own.map (·.2)) g))
    (hi1 : ∀ (s : Shared) (H : Hp) (C : Addr) (cl : List (Str × Addr)) (fp : List Addr), PI (X.blk s H scope (compEnvC scope cl C X.env) fp) tg1 iter1 (ti c src1))
    (hg1 : ∀ (s : Shared) (H : Hp) (C : Addr) (cl : List (Str × Addr)) (fp : List Addr), PG (X.blk s H scope (compEnvC scope cl C X.env) fp) tg1 (tG c vs1 g1))
    (hk : ∀ (s : Shared) (H : Hp) (C : Addr) (cl : List (Str × Addr)) (fp : List Addr), PE (X.blk s H scope (compEnvC scope cl C X.env) fp) kx (tm c mk))
    (he : ∀ (s : Shared) (H : Hp) (C : Addr) (cl : List (Str × Addr)) (fp : List Addr), PE (X.blk s H scope (compEnvC scope cl C X.env) fp) vx (tm c mv))
    (ok : BlkOk X.N X.env.scope scope own := by exact blkOk_by (by rfl)) (hv : ∀ i ∈ own.map (·.2), nio ≤ i := by decide) (hs1 : ∀ i ∈ vs1, i ∈ own.map (·.2) := by decide)
    (hs : ∀ x, foldedSetIterable iter X.env x = pure x := by intro _; rfl) (hs2 : ∀ env x, foldedSetIterable iter1 env x = pure x := by intro _ _; rfl) :
    PE X (.DictComp kx vx [⟨tg, iter, [], 0⟩, ⟨tg1, iter1, [], 0⟩] scope pos) (tm c (dc2M tup (own.map (·.2)) src g src1 vs1 g1 mk mv)) :=
  pe_imp (pe_dc2 hc hN hu (noK_no tup) hi ok hs1 hg hi1 hg1 hk he hs hs2) fun σ H Q => dc2_red hs1 (fun p hp hm => by have := hio p hp; have := hv _ hm; omega) (fun p hp hm => by have := hio p hp; have := hv _ (hs1 _ hm); omega)
end Z

set_option Elab.async false
set_option linter.all false
set_option maxRecDepth 100000
set_option maxHeartbeats 4000000
/-! Z30: own exceptions over any built-in class, made by an __init__ that asks the base's and stores one field, or none. -/
namespace ZX
open PySem Builtin Builtin.ObjectAttr
section
variable {prog : Program} {w : World} {A : Around} {R : Result → Shared → Prop} {hp : Heap} {g : Array GenState} {dr : Drawn} {t : Nat} {os : OsState}
/-- from self.f = v to the object's own dict -/
theorem to_own {K : W.Frag} {nm : Str} {tk : Tok} {v : Value} {x C : Addr} {ox : Obj} {od : Option Obj} {cd : ClassData} {T : List Value}
    (kin : K.In hp) (inst : W.InstAt hp x ox C od) (hcl : W.clsIn K C = some cd) (hm : cd.mro = .ref C :: T) (ps : ∀ self, refuseLoop self "__setattr__" T = pure ()) (ho : T.contains (.type "object") = true) (hf : W.findIn K (.ref C) nm = some none)
    (go : wpAny (model prog w) A.in1 (storeInOwnDict (.ref x) (.ref C) (.str nm tk) nm v false)
      (fun fin s' => match fin with | .done f => R (.ok f) s' | .again c' => c'.quiet = true ∧ codeAny (model prog w) A c' R s') (fun e s' => R (.error e) s') ⟨hp, g, dr, t, os⟩) :
    codeAny (model prog w) A (.call (.builtin "object.__setattr__") ⟨[.ref x, .str nm tk, v], []⟩) R ⟨hp, g, dr, t, os⟩ := by
  have st := F.store_object
  have has : (Value.ref C :: T).contains (.type "object") = true := by simp only [List.contains_cons, ho, Bool.or_true]
  have inMro : W.mroIn K C (.type "object") = some true := by
    unfold W.mroIn
    rw [hcl, Option.bind_some, hm, if_neg (show ¬ ((Value.ref C :: T).isEmpty = true) from Bool.false_ne_true)]
    exact congrArg some has
  have isObj : W.Looks (model prog w) hp (isInstance (.ref x) (.type "object")) true := inst.type.andThen (W.looks_mroIn kin inMro)
  have seesMro : W.Looks (model prog w) hp (mroOf (.ref C)) cd.mro := (W.looks_clsIn kin hcl).andThen .now
  have noTaker : W.Looks (model prog w) hp (storeTaker? none) none := .now
  have let_ : refuseLoop (.ref x) "__setattr__" cd.mro = pure () := (congrArg (refuseLoop (.ref x) "__setattr__") hm).trans ((refuseLoop_ref _ _ C T).trans (ps _))
  refine codeAny_call_builtin st.slot.plain st.entry
    (@W.check_slot (model prog w) _ _ ⟨hp, g, dr, t, os⟩ "object.__setattr__" "object" "__setattr__" (.ref x) [.str nm tk, v] [] _ st.kind st.split isObj
      (st.args (.ref x) (.str nm tk) v) ?_)
  rw [W.osa_eq, refuse_eq]
  refine wpAny_bind (wpAny_bind (inst.type.at (wpAny_bind (seesMro.at ?_))))
  rw [let_]
  exact wpAny_pure (wpAny_bind (inst.type.at (wpAny_bind ((W.looks_findIn kin hf).at (wpAny_bind (noTaker.at go))))))
/-- the first field -/
theorem own_first {K : W.Frag} {nm : Str} {tk : Tok} {v : Value} {x C : Addr} {fv : Array Value} {cd : ClassData} {T : List Value}
    (kin : K.In hp) (hx : hp.get? x = some { cls := .ref C, data := .fields fv }) (hcl : W.clsIn K C = some cd) (hm : cd.mro = .ref C :: T) (ps : ∀ self, refuseLoop self "__setattr__" T = pure ()) (ho : T.contains (.type "object") = true) (hd : cd.hasDict = true) (hf : W.findIn K (.ref C) nm = some none)
    (go : ∀ h' tk' dx, (∀ b o, b ≠ x → hp.get? b = some o → h'.get? b = some o) → hp.objs.size ≤ dx → dx ≠ x → h'.get? x = some { cls := .ref C, dict := some dx, data := .fields fv } →
      h'.Ns1 dx (fun y => if y = nm then some v else none) → R (.ok (.ret .none)) ⟨h', g, dr, tk', os⟩) :
    codeAny (model prog w) A (.call (.builtin "object.__setattr__") ⟨[.ref x, .str nm tk, v], []⟩) R ⟨hp, g, dr, t, os⟩ := by
  have far : x ≠ hp.objs.size := Nat.ne_of_lt (Heap.lt_size hx)
  refine to_own kin (ox := { cls := .ref C, data := .fields fv }) (od := none) ⟨hx, rfl, rfl, trivial⟩ hcl hm ps ho hf ?_
  have sees : W.Looks (model prog w) hp (classData C) cd := W.looks_clsIn kin hcl
  obtain ⟨_, _, _, _, _, d0, _, _, _, _, _⟩ := cd
  dsimp only at hd
  subst hd
  unfold storeInOwnDict ownDictForStores
  repeat (first
    | with_reducible refine HandSPX.store_in_new ?_ ?_
    | with_reducible refine wpAny_loadPart_at hx ?_
    | with_reducible refine sees.at ?_
    | wp_step)
  · exact ⟨_, #[], _, (Heap.get?_update_ne _ _ _ _ far.symm).trans (Heap.get?_push_at rfl rfl), rfl, fun e he => absurd he (by simp), fun _ => rfl⟩
  · intro h' tk' named but
    have there : (hp.push { cls := .type "dict", data := .dict #[] }).get? x = some { cls := .ref C, data := .fields fv } := Heap.get?_push_of_some _ hx
    refine go h' tk' hp.objs.size (fun b o hb old => (but.2 b (Nat.ne_of_lt (Heap.lt_size old))).trans ?_) (Nat.le_refl _) far.symm ((but.2 x far).trans (Heap.get?_update_self _ there rfl)) named
    exact (Heap.get?_update_ne _ _ _ _ hb).trans (Heap.get?_push_of_some _ old)
end
/-- what is known of a built-in class that own exceptions stand under -/
structure BaseF (B newId initId : String) (bmB : List Value) : Prop where
  F : ExcBaseFacts B newId initId bmB
  pass : ∀ self, refuseLoop self "__setattr__" bmB = pure ()
  obj : bmB.contains (.type "object") = true
  ty : typeOf (.type B) = pure (.type "type")
  init : ∀ K : PySem.W.Frag, PySem.W.findCls K (.type B) (.type "type") "__init__" = some (.val (.builtin initId))
  boot : bootBuiltins (Str.ofString B) = some (.type B)
  stub : Manifest.isStub B = false
  hand : PySem.W.handedIn (.builtin initId) = true
theorem base_LookupError : BaseF "LookupError" "LookupError.__new__" "LookupError.__init__" [.type "LookupError", .type "Exception", .type "BaseException", .type "object"] :=
  ⟨F.excBase_LookupError, fun self => by kernel_rfl, by decide +kernel, by kernel_rfl, fun K => by kernel_rfl, by decide +kernel, by decide +kernel, by decide +kernel⟩
theorem base_ValueError : BaseF "ValueError" "ValueError.__new__" "ValueError.__init__" [.type "ValueError", .type "Exception", .type "BaseException", .type "object"] :=
  ⟨F.excBase_ValueError, fun self => by kernel_rfl, by decide +kernel, by kernel_rfl, fun K => by kernel_rfl, by decide +kernel, by decide +kernel, by decide +kernel⟩
theorem base_RuntimeError : BaseF "RuntimeError" "RuntimeError.__new__" "RuntimeError.__init__" [.type "RuntimeError", .type "Exception", .type "BaseException", .type "object"] :=
  ⟨F.excBase_RuntimeError, fun self => by kernel_rfl, by decide +kernel, by kernel_rfl, fun K => by kernel_rfl, by decide +kernel, by decide +kernel, by decide +kernel⟩
theorem base_OverflowError : BaseF "OverflowError" "OverflowError.__new__" "OverflowError.__init__" [.type "OverflowError", .type "ArithmeticError", .type "Exception", .type "BaseException", .type "object"] :=
  ⟨F.excBase_OverflowError, fun self => by kernel_rfl, by decide +kernel, by kernel_rfl, fun K => by kernel_rfl, by decide +kernel, by decide +kernel, by decide +kernel⟩
end ZX

set_option Elab.async false
set_option linter.all false
set_option maxRecDepth 100000
set_option maxHeartbeats 4000000
/-! Z31: C(e) of an own exception class whose __init__(self, f) asks the base's __init__ and stores f. -/
namespace Z
open PySem PySem.Spec PyProof.Rows L2
/-- what is written of an own exception class at C -/
structure OxC (K : PySem.W.Frag) (C : Addr) (newId : String) (bmB : List Value) : Prop where
  cls : ∃ nm q N bs sn sub ab col dd k0 k1 k2 k3 k5, K.lookup C = some (excClassObj nm q C N bs bmB true sn sub ab col dd k0 k1 k2 k3 k5 newId)
  sa : PySem.W.findIn K (.ref C) "__setattr__" = some (some (.builtin "object.__setattr__"))
  exC : PySem.W.subIn K (.ref C) (.type "BaseException") = some true
  tyC : PySem.W.typeIn K (.ref C) = some (.type "type")
  kC : PySem.W.keepIn K (.ref C) = true
section
variable {X : Cx} {pins : List (Addr × Obj)} {σ : L2.St} {H : Hp} {s : Shared} {a C : Addr} {f : Str} {y : V} {u : Value} {A : Around} {E : Value → Shared → Prop} {B newId initId : String} {bmB : List Value}
/-- B.__init__(self, ..): the exception stays as it is told -/
theorem binit_ok {us : List Value} {Q : Value → Shared → Prop} (BF : ZX.BaseF B newId initId bmB) (T : OxC X.K C newId bmB) (I : Inv X pins σ H s) (e : H a = some (exo a C none)) (hl : us.length ≤ sizeLine) (go : ∀ s', Inv X pins σ H s' → Q .none s') :
    wpAny (model X.prog X.w) A (call (.builtin initId) (.ref a :: us)) Q E s := by
  obtain ⟨_, _, _, _, _, _, _, _, _, _, _, _, _, _, hC⟩ := T.cls
  obtain ⟨t1, there⟩ := exo_at I.hok e
  have same : upd H a (exo a C none) = H := funext fun b => by
    by_cases q : b = a
    · rw [q, upd_same, e]
    · exact upd_ne q
  obtain ⟨hp, g, d, t, os⟩ := s
  refine wpAny_call (PySem.HandSPX.init_base BF.F (fun _ => rfl) (I.kIn _ _ hC) there hl fun h' t2 keeps now => go _ ?_)
  rw [← same]
  exact I.write (t' := t) (x := a) (e := a) (o := exo a C none) (by rw [e]; exact True.intro) (.inl rfl) keeps ⟨_, now⟩ (exo_ok now)
/-- self.f = y -/
theorem bstore_ok {Q : Unit → Shared → Prop} (BF : ZX.BaseF B newId initId bmB) (T : OxC X.K C newId bmB) (I : Inv X pins σ H s) (e : H a = some (exo a C none)) (free : PySem.W.findIn X.K (.ref C) f = some none) (ry : RelV y u)
    (go : ∀ dx s', H dx = none → dx ≠ a → Inv X pins σ (upd (upd H dx (exd dx [(f, y)])) a (exo a C (some dx))) s' → Q () s') : wpAny (model X.prog X.w) A (setAttr (.ref a) f u) Q E s := by
  obtain ⟨nm, q, N, bs, sn, sub, ab, col, dd, k0, k1, k2, k3, k5, hC⟩ := T.cls
  have hcl : PySem.W.clsIn X.K C = some { name := nm, bases := bs, mro := .ref C :: bmB, ns := N, qualname := q, hasDict := true, slotNames := sn, subclasses := sub, abstract := ab, collection := col, hasDel := false } := by
    unfold PySem.W.clsIn
    rw [hC] <;> rfl
  obtain ⟨t1, there⟩ := exo_at I.hok e
  obtain ⟨hp, g, d, t, os⟩ := s
  refine PySem.W.set_plain I.kIn (ox := { cls := .ref C, dict := none, data := .fields #[.ref t1, .none, .none, .none, .bool false, .none] }) (od := none) ⟨there, rfl, rfl, trivial⟩ T.sa ?_
  refine ZX.own_first I.kIn there hcl rfl BF.pass BF.obj rfl free fun h' tk' dx keeps dn dne hx named => ?_
  have hnd : H dx = none := I.hok.fresh dn
  have notDx : ∀ {b : Addr} {o : Obj}, hp.get? b = some o → b ≠ dx := fun {b o} z => Nat.ne_of_lt (Nat.lt_of_lt_of_le (Heap.lt_size z) dn)
  have notA : ∀ {b : Addr}, H b = none → b ≠ a := fun {b} n z => by rw [z, e] at n; exact nomatch n
  have un : Un X.fs [] H (upd (upd H dx (exd dx [(f, y)])) a (exo a C (some dx))) hp h' :=
    ⟨fun b o z n _ _ => keeps b o (notA n) z, fun b o z n _ _ => ⟨o.slots, keeps b o (notA n) z⟩, fun b o z n _ => by rw [upd_ne (notA n), upd_ne (notDx z)]; exact n,
      fun b o z _ => if hb : b = a then ⟨_, hb ▸ hx⟩ else ⟨o, keeps b o hb z⟩,
      fun b xs z => by rw [upd_ne (at_ne e z exo_tup), upd_ne (ne_of_none z hnd)]; exact z, fun b o v z => by rw [upd_ne (at_ne e z exo_frz), upd_ne (ne_of_none z hnd)]; exact z,
      fun b ps z => ⟨#[], by rw [upd_ne (at_ne e z exo_tbl), upd_ne (ne_of_none z hnd), z]; simp⟩⟩
  refine go dx _ hnd dne (I.un (t' := tk') un fun b o z => ?_)
  by_cases hb : b = a
  · subst hb
    rw [upd_same] at z
    cases z
    exact exo_ok hx
  rw [upd_ne hb] at z
  by_cases hd : b = dx
  · subst hd
    rw [upd_same] at z
    cases z
    exact exd_ok named (relO_put (fs := []) ry fun g => True.intro)
  rw [upd_ne hd] at z
  refine (I.hok b o z).stay (fun c v hc w => keeps c v ?_ w) (fun c hc => ?_) fun c xs hc => ?_
  · rcases hc with hc | hc
    · rw [hc]; exact hb
    · exact at_ne e hc exo_own
  · rw [upd_ne (at_ne e hc exo_own), upd_ne (ne_of_none hc hnd)]; exact hc
  · rw [upd_ne (at_ne e hc exo_tup), upd_ne (ne_of_none hc hnd)]; exact hc
end
/-! ### its __init__ -/
/-- __init__(self, f) -/
def spI1 (K : PySem.W.Frag) (C : Addr) (f : Str) : Sp := fun vs H Q _ => ∃ (a : Addr) (v : V), vs = [.ref a, v] ∧ H a = some (exo a C none) ∧
  ∀ dx, H dx = none → dx ≠ a → Q .non (upd (upd H dx (exd dx [(f, v)])) a (exo a C (some dx)))
def tBi (K : PySem.W.Frag) (C : Addr) (ta : TA) : TE := fun σ H Q => ta σ H fun vs H1 => ∃ (a : Addr) (ws : List V), vs = .ref a :: ws ∧ ws.length ≤ 1000 ∧ H1 a = some (exo a C none) ∧ Q .non H1
def tBs (C : Addr) (f : Str) (to te : TE) : TS := fun N σ H => te σ H fun y H1 => to σ H1 fun x H2 => ∃ a : Addr, x = .ref a ∧ H2 a = some (exo a C none) ∧
  ∀ dx, H2 dx = none → dx ≠ a → N.nx σ (upd (upd H2 dx (exd dx [(f, y)])) a (exo a C (some dx)))
section
variable {X : Cx} {o e : Expr} {es : List Expr} {to te : TE} {ta : TA} {f : Str} {p p' p1 p2 pos : Pos} {C : Addr} {B newId initId : String} {bmB : List Value}
theorem pe_bi {y : Str} {pl : Sem Bool} (BF : ZX.BaseF B newId initId bmB) (T : OxC X.K C newId bmB) (hg : Gl X y) (hm : X.mg y = none) (hb : bootBuiltins y = some (.type B)) (ha : PA X (e :: es) ta)
    (hn : y ≠ "__name__") (hdb : (y == ("__debug__" : Str)) = false)
    (hc : eval (.Call (.Attribute (.Name y p1) "__init__" p2) (e :: es) [] pos) X.env = (do
      let ov ← eval (.Name y p1) X.env
      standAt p2.atName
      let (f, first) ← holding [ov] (getMethod ov "__init__" pl)
      callWith pos f first (backTo pos (starEach (e :: es) X.env)) (backToKw pos (keywordEach [] X.env))) := by rfl)
    (he : starEach (e :: es) X.env = (false, eval e X.env) :: starEach es X.env := by rfl) (hpl : (backTo pos (starEach es X.env)).any (·.1) = false := by rfl) :
    PE X (.Call (.Attribute (.Name y p1) "__init__" p2) (e :: es) [] pos) (tBi X.K C ta) := ⟨fun pins s σ H Q I h => by
  obtain ⟨m, fr⟩ := I.fr
  refine PySem.W.methodCall_KW (ld_blt I hg hm hb ?_ hn hdb) hc
  refine PySem.W.method_type fr I.ok.mod.kin BF.ty BF.stub (BF.init X.K) BF.hand ?_
  refine PyProof.Rows.callWith_method1 (thn (ha.run pos pins _ σ H _ (I.tok _) h) fun us s1 got => ?_) he hpl
  obtain ⟨vs, H1, I1, r1, a, ws, rfl, hl, ea, q⟩ := got
  cases r1 with
  | @cons _ u0 _ ur ra rest =>
    have eu : u0 = Value.ref a := ra
    subst eu
    exact binit_ok BF T I1 ea (by rw [← Paired.length rest, sizeLine_eq]; omega) fun s' J => ⟨.non, H1, J, rfl, q⟩⟩
theorem ps_bs (BF : ZX.BaseF B newId initId bmB) (T : OxC X.K C newId bmB) (free : PySem.W.findIn X.K (.ref C) f = some none) (ho : PE X o to) (he : PE X e te) (hs : swapsWith e (some (.Attribute o f p')) pos.line X.env = pure false := by rfl) :
    PS X (.Assign [.Attribute o f p'] e pos) (tBs C f to te) := ⟨fun pins s σ H N I h => by
  refine plainObj_wpAny_Assign_Attribute (thn (he.run pins s σ H _ I h) fun v s1 ⟨y, H1, I1, r1, q1⟩ => ?_) hs
  refine thn (ho.run pins s1 σ H1 _ I1 q1) fun u s2 ⟨x, H2, I2, r2, a, ex, ea, q⟩ => ?_
  subst ex
  have eu : u = Value.ref a := r2
  subst eu
  exact bstore_ok BF T I2 ea free r1 fun dx s' n ne J => ⟨σ, _, J, q dx n ne⟩⟩
end
end Z

set_option Elab.async false
set_option linter.all false
set_option maxRecDepth 100000
set_option maxHeartbeats 4000000
/-! Z32: raise C(e) on trees. -/
namespace Z
open PySem PySem.Spec PyProof.Rows L2
/-- an own exception class whose __init__ keeps its promise -/
structure RzOk (P : Program) (w : World) (G : Cfg) (mg : Str → Option Value) (base : Heap) (x f : Str) : Prop where
  gC : mg x = some (.ref (G.cls x))
  ex : ∃ (B newId initId : String) (bmB : List Value) (fI : Addr) (fd : FuncData), ZX.BaseF B newId initId bmB ∧ OxC G.K (G.cls x) newId bmB ∧ PySem.W.findIn G.K (.ref (G.cls x)) "__init__" = some (some (.ref fI)) ∧
    PySem.W.typeIn G.K (.ref fI) = some (.type "function") ∧ FnOk P w G.K mg base (L2.CX P w) 1 fI fd ["self", f] (spI1 G.K (G.cls x) f) ∧ Binds G.K fd ["self", f] []
/-- what is written of such a class: st its __init__ -/
structure ClsX (K : PySem.W.Frag) (mg : Str → Option Value) (x : Str) (C : Addr) (st : Stmt) (q f : Str) (newId : String) (bmB : List Value) : Prop where
  gC : mg x = some (.ref C)
  ox : OxC K C newId bmB
  free : PySem.W.findIn K (.ref C) f = some none
  ini : ∃ (fI : Addr) (fd : FuncData), Fun K "__init__" q st fI fd ∧ Binds K fd ["self", f] [] ∧ PySem.W.findIn K (.ref C) "__init__" = some (some (.ref fI)) ∧ PySem.W.typeIn K (.ref fI) = some (.type "function")
theorem rzOk {P : Program} {w : World} {G : Cfg} {mg : Str → Option Value} {base : Heap} {x q f : Str} {st : Stmt} {B newId initId : String} {bmB : List Value} {m : Str} (BF : ZX.BaseF B newId initId bmB) (T : ClsX G.K mg x (G.cls x) st q f newId bmB)
    (S : FnScope ["self", f] ["self", f] (defScope st))
    (hb : ∀ (fI : Addr) (cdv : Value) (A : Around) (outer : List Env) (s : Shared) (H : Hp) (E : XK),
      PSs (cxOf (L2.CX P w) P w G.K mg base ["self", f] q (defScope st) fI cdv A outer s H E) (defBody st) (tSeq (tDrop (tBi G.K (G.cls x) (tCons (tVar 0) (tCons (tC (.str m)) tNil)))) (tBs (G.cls x) f (tVar 0) (tVar 1)))) : RzOk P w G mg base x f := by
  obtain ⟨fI, fd, Fn, b, iC, tI⟩ := T.ini
  refine ⟨T.gC, B, newId, initId, bmB, fI, fd, BF, T.ox, iC, tI, ?_, b⟩
  refine FnOk.mono (k := 1) (j := 1) (Fn.okX (k := 0) S (fun vs H Q E h => ?_) fun cdv A outer s H vs Q E hr h => ⟨_, hb fI cdv A outer s H E, ?_⟩) (Nat.le_refl _)
  · obtain ⟨a, v, rfl, _⟩ := h
    rfl
  · obtain ⟨a, v, rfl, ea, go⟩ := h
    refine ⟨_, rfl, a, [.str m], rfl, by simp, ea, ?_⟩
    exact ⟨v, rfl, _, rfl, a, rfl, ea, fun dx n ne => go dx n ne⟩
section
variable {X : Cx} {e : Expr} {te : TE} {x f : Str} {p pos : Pos} {k : Nat} {c : Ctx}
def tMk1 (C : Addr) (f : Str) (te : TE) : L2.St → Hp → XK → Prop := fun σ H Q => te σ H fun v H1 => ∀ d, H1 d = none → Q (.ref C) (some d) (upd H1 d (.xd [(f, v)]))
theorem pmk1 {B newId initId : String} {bmB : List Value} {C fI : Addr} {fd : FuncData} (BF : ZX.BaseF B newId initId bmB) (T : OxC X.K C newId bmB) (iC : PySem.W.findIn X.K (.ref C) "__init__" = some (some (.ref fI))) (tI : PySem.W.typeIn X.K (.ref fI) = some (.type "function"))
    (Fn : FnOk X.prog X.w X.K X.mg X.base (L2.CX X.prog X.w) 1 fI fd ["self", f] (spI1 X.K C f)) (hr : Room (k + 2) X.A) (hb : Binds X.K fd ["self", f] []) (hg : Gl X x) (hm : X.mg x = some (.ref C)) (ha : PE X e te)
    (hdb : (x == ("__debug__" : Str)) = false := by decide) (he : starEach (e :: []) X.env = (false, eval e X.env) :: starEach [] X.env := by rfl) (hpl : (backTo pos (starEach [] X.env)).any (·.1) = false := by rfl) :
    PMk X (.Call (.Name x p) [e] [] pos) (tMk1 C f te) := by
  intro pins s σ H Q I h
  obtain ⟨_, _, _, _, _, _, _, _, _, _, _, _, _, _, hC⟩ := T.cls
  have hpa : PA X [e] (tCons te tNil) := pa_cons ha pa_nil (hs := he)
  refine wpAny_Call_Name_kw (ld_glob I hg hm ?_ hdb)
  refine PySem.W.callWith_K (h₀ := X.base) I.ok.mod.kin T.kC (thn (hpa.run pos pins s σ H (fun vs H1 => ∃ v, vs = [v] ∧ ∀ d, H1 d = none → Q (.ref C) (some d) (upd H1 d (.xd [(f, v)]))) I ?_) fun us s1 got => ?_) he hpl
  · have ee : (fun v H1 => ∀ d, H1 d = none → Q (.ref C) (some d) (upd H1 d (.xd [(f, v)])) : VK) = fun v H1 => ∃ v', [v] = [v'] ∧ ∀ d, H1 d = none → Q (.ref C) (some d) (upd H1 d (.xd [(f, v')])) := by
      funext v H1
      refine propext ⟨fun q => ⟨v, rfl, q⟩, fun ⟨v', ev, q⟩ => ?_⟩
      cases ev
      exact q
    show te σ H fun v H1 => ∃ v', [v] = [v'] ∧ ∀ d, H1 d = none → Q (.ref C) (some d) (upd H1 d (.xd [(f, v')]))
    rw [← ee]
    exact h
  obtain ⟨vs, H1, I1, rv, v, ev, go⟩ := got
  subst ev
  refine ⟨I1.kIn, ?_⟩
  show wpAny _ _ (call (.ref C) us) _ _ _
  obtain ⟨hp, g, dr, tk, os⟩ := s1
  have big : hp.objs.size ≤ hp.objs.size + 1 := Nat.le_succ _
  have hn : H1 (hp.objs.size + 1) = none := I1.hok.fresh big
  have keeps : ∀ b o, hp.get? b = some o → ((hp.push (PySem.W.kdv_tup us)).push (PySem.HandSPX.excO C hp.objs.size)).get? b = some o := fun b o z => Heap.get?_push_of_some _ (Heap.get?_push_of_some _ z)
  have made : ((hp.push (PySem.W.kdv_tup us)).push (PySem.HandSPX.excO C hp.objs.size)).get? (hp.objs.size + 1) = some (PySem.HandSPX.excO C hp.objs.size) := by heap_get
  have I2 := I1.laid (t' := tk) (a := hp.objs.size + 1) (o := exo (hp.objs.size + 1) C none) (h' := (hp.push (PySem.W.kdv_tup us)).push (PySem.HandSPX.excO C hp.objs.size)) keeps big (exo_ok made)
  have rv2 : Vals [V.ref (hp.objs.size + 1), v] (Value.ref (hp.objs.size + 1) :: us) := .cons rfl rv
  have one : us.length = 1 := by have := rv.length; simpa using this.symm
  have ask : spI1 X.K C f [V.ref (hp.objs.size + 1), v] (upd H1 (hp.objs.size + 1) (exo (hp.objs.size + 1) C none))
      (fun w H2 => w = .non ∧ ∃ dx, H1 dx = none ∧ dx ≠ hp.objs.size + 1 ∧ H2 = upd (upd (upd H1 (hp.objs.size + 1) (exo (hp.objs.size + 1) C none)) dx (exd dx [(f, v)])) (hp.objs.size + 1) (exo (hp.objs.size + 1) C (some dx))) (fun _ _ _ => False) :=
    ⟨_, v, rfl, upd_same, fun dx n ne => ⟨rfl, dx, by rw [upd_ne ne] at n; exact n, ne, rfl⟩⟩
  have binds := hb ⟨(hp.push (PySem.W.kdv_tup us)).push (PySem.HandSPX.excO C hp.objs.size), g, dr, tk, os⟩ (Value.ref (hp.objs.size + 1) :: us) I2.kIn (by simp [one])
  rw [List.append_nil] at binds
  refine wpAny_call (PySem.HandSPX.call_own BF.F (fun _ => rfl) (I1.kIn _ _ hC) (PySem.W.looks_findIn I1.kIn iC) (fun self => PySem.W.bind_fn I1.kIn self tI) (by rw [one, sizeLine_eq]; decide)
    (codeAny_mono (Fn.run _ X.stack _ _ ⟨Value.ref (hp.objs.size + 1) :: us, []⟩ (Value.ref (hp.objs.size + 1) :: us) _ _ (fun _ _ _ => False) ((hr.mono (by omega : 2 ≤ k + 2)).make C us []) (I2.env0.make C us []) binds rv2 ask) fun r s' got => ?_))
  cases r with
  | error er =>
    obtain ⟨_, _, _, _, _, _, _, _, _, _, _, _, z⟩ := got
    exact z.elim
  | ok fl =>
    cases fl with
    | ret u =>
      obtain ⟨w, H2, os2, bare2, un2, hok2, rw', ew, dx, n1, ne, e2⟩ := got
      subst ew
      subst e2
      obtain ⟨h2, g2, d2, t2, os'⟩ := s'
      refine ⟨rw', mk_end (fs := [(f, v)]) (d := dx) (raises_own T.exC T.tyC) I1 big keeps un2 hok2 os2 bare2 upd_same ?_ n1 ?_⟩
      · rw [upd_ne ne, upd_same]
      · have eH : upd (del (upd (upd (upd H1 (hp.objs.size + 1) (exo (hp.objs.size + 1) C none)) dx (exd dx [(f, v)])) (hp.objs.size + 1) (exo (hp.objs.size + 1) C (some dx))) (hp.objs.size + 1)) dx (.xd [(f, v)]) = upd H1 dx (.xd [(f, v)]) := funext fun b => by
          by_cases q : b = dx
          · rw [q, upd_same, upd_same]
          rw [upd_ne q, upd_ne q]
          by_cases q2 : b = hp.objs.size + 1
          · rw [q2, del_same, hn]
          · rw [del_ne q2, upd_ne q2, upd_ne q, upd_ne q2]
        rw [eH]
        exact go dx n1
    | next => exact got.elim
    | brk => exact got.elim
    | cont => exact got.elim
def raiseS (C f : Str) (m : M D) : MS := bndS m fun d r => some (.exc C [f] [d] r)
theorem z_raise {P : Program} {w : World} {mg : Str → Option Value} {base : Heap} {m : M D} {pos2 : Pos} {kk : Nat} (tk : Takes X (fun cls d σ H => c.E σ cls d H)) (hc : X.calm = true) (R : RzOk X.prog X.w c.G X.mg X.base x f) (hG : c.G.K = X.K) (hr : Room kk X.A) (hk : 2 ≤ kk) (ha : PE X e (tm c m)) (hg : Gl X x := by rfl)
    (hdb : (x == ("__debug__" : Str)) = false := by decide) (he : starEach (e :: []) X.env = (false, eval e X.env) :: starEach [] X.env := by rfl) (hpl : (backTo pos (starEach [] X.env)).any (·.1) = false := by rfl) :
    PS X (.Raise (some (.Call (.Name x p) [e] [] pos)) none pos2) (tS c (raiseS x f m)) := by
  obtain ⟨B, newId, initId, bmB, fI, fd, BF, T, iC, tI, Fn, hb⟩ := R.ex
  rw [hG] at T iC tI Fn hb
  refine ps_imp (ps_raise hc tk (pmk1 (k := 0) BF T iC tI Fn (hr.mono hk) hb hg R.gC ha hdb he hpl)) fun N σ H h => ?_
  obtain ⟨r, e0, y, n, hx, fin⟩ := h
  rcases bndS_cases hx with ⟨d, r1, h1, h2⟩ | ⟨C, ns, ds, r1, h1, rfl⟩
  · cases h2
    refine ⟨r, e0, _, n, h1, fun v H1 a w dx hd => ?_⟩
    refine fin σ [v] (some dx) _ a rfl ?_ (.inr ⟨dx, rfl, upd_same⟩)
    exact w.laid hd
  · exact ⟨r, e0, _, n, h1, fin σ⟩
end
end Z

set_option Elab.async false
set_option linter.all false
set_option maxRecDepth 100000
set_option maxHeartbeats 4000000
/-! Z33: try: body / except (A, B, ..) as error: caught = error: the exception is kept as a value. -/
namespace Z
open PySem PySem.Spec PyProof.Rows L2
section
variable {X : Cx} {pins : List (Addr × Obj)} {σ : L2.St} {H : Hp} {s : Shared}
theorem xo_ok {P : Program} {w : World} {H : Hp} {h : Heap} {a C : Addr} {d : Option Addr} {oe : Obj} {vs : Array Value} (e : h.get? a = some oe) (z : Zc (.ref C) d oe) (v : oe.data = .fields vs) : ObjOk P w H h a (Xo C d a) :=
  ⟨⟨oe, vs, e, z, v⟩, ⟨oe, e⟩, fun _ _ ⟨o, u, q, r⟩ k => ⟨o, u, k o q, r⟩⟩
/-- a pinned exception that is new comes to be known -/
theorem inv_track {a C : Addr} {d : Option Addr} {oe : Obj} {vs : Array Value} (I : Inv X ((a, oe) :: pins) σ H s) (z : Zc (.ref C) d oe) (v : oe.data = .fields vs) (n0 : X.s_0.heap.get? a = none) (np : ∀ p ∈ X.pn ++ pins, p.1 ≠ a) : Inv X pins σ (upd H a (Xo C d a)) s := by
  obtain ⟨ha, hn, nL, nF, _⟩ := I.pin (a, oe) (List.mem_append_right _ List.mem_cons_self)
  have ne0 : ∀ b o, X.s_0.heap.get? b = some o → b ≠ a := fun b o e q => by rw [q, n0] at e; exact nomatch e
  have neH : ∀ b u, H b = some u → b ≠ a := fun b u e q => by rw [q, hn] at e; exact nomatch e
  have cellN : ∀ c w, s.heap.IsCell c w → c ≠ a := fun c w ⟨o, ho, hd⟩ q => by
    rw [q, ha] at ho
    cases ho
    rw [v] at hd
    exact nomatch hd
  refine ⟨I.ok, I.os, I.bare, ⟨I.base.keep, I.base.slot, fun b o e n hx => ?_, I.base.there, fun b xs e => ?_, fun b o u e => ?_, fun b ps e => ?_⟩, I.loc, I.cell, ?_, fun x c e => ?_, fun p hp => ?_, fun b u e => ?_, I.len⟩
  · rw [upd_ne (ne0 b o e)]; exact I.base.free b o e n hx
  · have q := I.base.tups b xs e
    rw [upd_ne (neH b _ q)]; exact q
  · have q := I.base.frzs b o u e
    rw [upd_ne (neH b _ q)]; exact q
  · obtain ⟨m, q⟩ := I.base.tbls b ps e
    exact ⟨m, by rw [upd_ne (neH b _ q)]; exact q⟩
  · rw [upd_ne (Ne.symm nL)]; exact I.free
  · obtain ⟨w, q⟩ := I.cell x c e
    rw [upd_ne (cellN c w q)]; exact I.freeC x c e
  · have hp' : p ∈ X.pn ++ (a, oe) :: pins := by
      rcases List.mem_append.mp hp with q | q
      · exact List.mem_append_left _ q
      · exact List.mem_append_right _ (List.mem_cons_of_mem _ q)
    obtain ⟨e1, e2, e3⟩ := I.pin p hp'
    exact ⟨e1, by rw [upd_ne (np p hp)]; exact e2, e3⟩
  · by_cases hb : b = a
    · subst hb
      rw [upd_same] at e
      cases e
      exact xo_ok ha z v
    · rw [upd_ne hb] at e
      exact (I.hok b u e).stay (fun c w _ q => q) (fun c q => by rw [upd_ne (neH c _ q)]; exact q) fun c xs q => by rw [upd_ne (neH c _ q)]; exact q
/-- out of the suite, the exception still held -/
theorem suite_out {a : Addr} {oe : Obj} (I : Inv (X.suite a ((a, oe) :: (X.pn ++ pins))) [] σ H s) (ok : X.Ok) : Inv X ((a, oe) :: pins) σ H s :=
  ⟨ok, I.os, I.bare, I.base, I.loc, I.cell, I.free, I.freeC, fun p hp => I.pin p (List.mem_append_left _ (by
    rcases List.mem_append.mp hp with q | q
    · exact List.mem_cons_of_mem _ (List.mem_append_left _ q)
    · rcases List.mem_cons.mp q with q | q
      · rw [q]; exact List.mem_cons_self
      · exact List.mem_cons_of_mem _ (List.mem_append_right _ q))), I.hok, I.len⟩
end
/-- the clause's test, asked of an exception of the class cls -/
def CaTest (X : Cx) (te : Expr) (cls : Value) (b : Bool) : Prop :=
  ∀ (a : Addr) (oe : Obj) (pn pins : List (Addr × Obj)) (σ : L2.St) (H : Hp) (s : Shared) (E : Value → Shared → Prop) (Q : Bool → Shared → Prop), Inv (X.suite a ((a, oe) :: pn)) pins σ H s → PySem.W.Looks (model X.prog X.w) s.heap (typeOf (.ref a)) cls →
    (∀ h', (∀ q o, s.heap.get? q = some o → h'.get? q = some o) → Q b { s with heap := h' }) →
    wpAny (model X.prog X.w) (X.A.mark (some (.ref a))) (eval te X.env) (fun c s₁ => wpAny (model X.prog X.w) (X.A.mark (some (.ref a))) (excMatches (.ref a) c) Q E s₁) E s
section
variable {X : Cx} {cls : Value} {b : Bool}
theorem ca_name {I : Unit} {a : Addr} {oe : Obj} {pn pins : List (Addr × Obj)} {σ : L2.St} {H : Hp} {s : Shared} {E : Value → Shared → Prop} {x : Str} {c : Value} {np : Pos} {Q : Value → Shared → Prop} (J : Inv (X.suite a ((a, oe) :: pn)) pins σ H s) (hc : Names X x c) (q : Q c s) :
    wpAny (model X.prog X.w) (X.A.mark (some (.ref a))) (eval (.Name x np) X.env) Q E s := by
  obtain ⟨hg, hd, hm | ⟨hm, hv, hn⟩⟩ := hc
  · exact ld_glob (X := X.suite a ((a, oe) :: pn)) J hg hm q hd
  · exact ld_blt (X := X.suite a ((a, oe) :: pn)) J hg hm hv q hn hd
theorem ca_2 {x1 x2 : Str} {c1 c2 : Value} {p1 p2 tp : Pos} {kk : Nat} (n1 : Names X x1 c1) (n2 : Names X x2 c2) (he : PySem.W.exmAny X.K cls [c1, c2] = some b) : CaTest X (.Tuple [.Name x1 p1, .Name x2 p2] kk tp) cls b := fun a oe pn pins σ H s E Q J LT q => by
  refine wpAny_Tuple (wpAny_items_cons (ca_name (I := ()) J n1 (wpAny_items_cons (ca_name (I := ()) J n2 (wpAny_items_nil ⟨by size_fits, ?_⟩)))))
  have kp : ∀ q o, s.heap.get? q = some o → (s.heap.push { cls := .type "tuple", data := .seq [c1, c2].toArray }).get? q = some o := fun _ _ z => Heap.get?_push_of_some _ z
  exact (PySem.W.exm_tup2 (J.kIn.keeps kp) (LT.keeps kp) (Heap.get?_push_size s.heap rfl) he).here (q _ kp)
theorem ca_3 {x1 x2 x3 : Str} {c1 c2 c3 : Value} {p1 p2 p3 tp : Pos} {kk : Nat} (n1 : Names X x1 c1) (n2 : Names X x2 c2) (n3 : Names X x3 c3) (he : PySem.W.exmAny X.K cls [c1, c2, c3] = some b) :
    CaTest X (.Tuple [.Name x1 p1, .Name x2 p2, .Name x3 p3] kk tp) cls b := fun a oe pn pins σ H s E Q J LT q => by
  refine wpAny_Tuple (wpAny_items_cons (ca_name (I := ()) J n1 (wpAny_items_cons (ca_name (I := ()) J n2 (wpAny_items_cons (ca_name (I := ()) J n3 (wpAny_items_nil ⟨by size_fits, ?_⟩)))))))
  have kp : ∀ q o, s.heap.get? q = some o → (s.heap.push { cls := .type "tuple", data := .seq [c1, c2, c3].toArray }).get? q = some o := fun _ _ z => Heap.get?_push_of_some _ z
  exact (PySem.W.exm_tup3 (J.kIn.keeps kp) (LT.keeps kp) (Heap.get?_push_size s.heap rfl) he).here (q _ kp)
theorem ca_4 {x1 x2 x3 x4 : Str} {c1 c2 c3 c4 : Value} {p1 p2 p3 p4 tp : Pos} {kk : Nat} (n1 : Names X x1 c1) (n2 : Names X x2 c2) (n3 : Names X x3 c3) (n4 : Names X x4 c4) (he : PySem.W.exmAny X.K cls [c1, c2, c3, c4] = some b) :
    CaTest X (.Tuple [.Name x1 p1, .Name x2 p2, .Name x3 p3, .Name x4 p4] kk tp) cls b := fun a oe pn pins σ H s E Q J LT q => by
  refine wpAny_Tuple (wpAny_items_cons (ca_name (I := ()) J n1 (wpAny_items_cons (ca_name (I := ()) J n2 (wpAny_items_cons (ca_name (I := ()) J n3 (wpAny_items_cons (ca_name (I := ()) J n4 (wpAny_items_nil ⟨by size_fits, ?_⟩)))))))))
  have kp : ∀ q o, s.heap.get? q = some o → (s.heap.push { cls := .type "tuple", data := .seq [c1, c2, c3, c4].toArray }).get? q = some o := fun _ _ z => Heap.get?_push_of_some _ z
  exact (PySem.W.exm_tup4 (J.kIn.keeps kp) (LT.keeps kp) (Heap.get?_push_size s.heap rfl) he).here (q _ kp)
theorem ca_1 {x : Str} {c : Value} {np : Pos} (n1 : Names X x c) (he : PySem.W.exmOne X.K cls c = some b) : CaTest X (.Name x np) cls b := fun a oe pn pins σ H s E Q J LT q =>
  ca_name (I := ()) J n1 ((PySem.W.exm_one J.kIn LT he).here (q _ fun _ _ z => z))
theorem flying_more {base h h' : Heap} {l : List Env} {e : Addr} {Z : Obj → Prop} (x : HandSPX.FlyingZ base l e Z h) (k : ∀ b o, h.get? b = some o → h'.get? b = some o) : HandSPX.FlyingZ base l e Z h' := by
  obtain ⟨f1, f2, f3, oe, vs, T, oT, ts, e1, e2, e3, e4, e5, e6, e7, e8⟩ := x
  exact ⟨fun b o q => k b o (f1 b o q), f2, f3.of_keeps fun b o q _ => ⟨o, k b o q, rfl⟩, oe, vs, T, oT, ts, k _ _ e1, e2, e3, e4, e5, e6, k _ _ e7, e8⟩
end
/-- what is wished of what the body raises: kept at slot j -/
def wKeep (X : Cx) (te : Expr) (i j : Nat) (Wout : WX) (N : Ends) : WX := fun cls d σ H => ∃ b, CaTest X te cls b ∧
  (b = true → ∃ C, cls = .ref C ∧ ∀ a, H a = none → N.nx (((σ.set i (some (.ref a))).set j (some (.ref a))).set i none) (upd H a (Xo C d a))) ∧ (b = false → Wout cls d σ H)
section
variable {X : Cx} {n m : Str} {i j : Nat} {body : List Stmt} {te : Expr} {mp np ap pos pos' : Pos} {tb : WX → TS} {Wout : WX}
theorem ps_try_keep (hs : X.stack = X.env :: X.outer) (hf : X.env.frame = some X.env.locals) (hex : X.ex = []) (hN : X.N.Nodup) (hi : X.N[i]? = some n) (hln : X.env.kindOf n = some .local) (hj : X.N[j]? = some m) (hlm : X.env.kindOf m = some .local) (tk : Takes X Wout)
    (hdn : (n == ("__debug__" : Str)) = false) (hcn : (n == ("__classdict__" : Str)) = false)
    (hb : ∀ (W : WX) (pn : List (Addr × Obj)) (xe : Value → Shared → Prop), Takes (X.tr pn xe) W → PassesOwn (model X.prog X.w) X.A X.env xe → PSs (X.tr pn xe) body (tb W))
    (hs' : swapsWith (.Name n np) none ap.line X.env = pure false := by rfl) :
    PS X (.Try body [.ExceptHandler (some te) (some n) [.Assign [.Name m mp] (.Name n np) ap] pos'] [] [] pos) (fun N σ H => tb (wKeep X te i j Wout N) N σ H) := by
  refine ⟨fun pins s σ H N I h => ?_⟩
  have ok := I.ok
  have frames : X.A.frames = some (X.env :: X.outer) := by rw [ok.frames, hs]
  refine wpAny_Try_except ?_
  refine wpAny_mono ((hb (wKeep X te i j Wout N) (X.pn ++ pins) (fun e s₁ => wpAny (model X.prog X.w) X.A (noteFrame e X.env) (fun _ s₂ => wpAny (model X.prog X.w) X.A (setFlight e none) (fun _ s₃ =>
    wpAny (model X.prog X.w) X.A (handleBy e X.env [.ExceptHandler (some te) (some n) [.Assign [.Name m mp] (.Name n np) ap] pos']) (SP X pins N) X.xe s₃) X.xe s₂) X.xe s₁) (fun u s' air => ?_) PassesOwn.looking).run [] s σ H N (I.toTry _) h) (fun f s1 ended => ?_) (fun e s1 he => he)
  · obtain ⟨a, B, sI, pins', σ', H', cls, d, rfl, J', nb, up, sky, na, os, ag, b, hb1, hyes, hno⟩ := air
    have J : Inv X pins σ' H' sI := J'.ofTry ok
    have sky' : Sky B (X.env :: X.outer) a (Zc cls d) X.env.locals s'.heap := by rw [← hs]; exact sky
    show wpAny (model X.prog X.w) X.A (noteFrame (.ref a) X.env) _ _ _
    refine Sky.land Zc.steady frames hf sky' fun h3 fl3 up3 => ?_
    have J3 : Inv X pins σ' H' { s' with heap := h3 } := J.landed nb fl3.1 (up.trans up3) os ag
    obtain ⟨oe3, vs3, he3, hz3, hd3⟩ := fl3.there
    have notFr : a ∉ frs (X.env :: X.outer) := fun hm => by
      obtain ⟨_, o', e', hnf⟩ := fl3.2.2.1.mem hm
      rw [he3] at e'
      cases e'
      exact hnf _ hd3
    have nL : a ≠ X.env.locals := fun z => notFr (List.mem_filterMap.mpr ⟨X.env, List.mem_cons_self, by rw [hf, z]⟩)
    have nF : a ∉ X.fs := fun hm => by
      obtain ⟨e, he, q⟩ := List.mem_filterMap.mp hm
      exact notFr (List.mem_filterMap.mpr ⟨e, List.mem_cons_of_mem _ he, q⟩)
    have sIn : sI.heap.get? a = none := by
      cases q : sI.heap.get? a with
      | none => rfl
      | some o =>
        have z := nb a o q (by rw [hs]; exact notFr)
        rw [fl3.2.1] at z
        exact nomatch z
    have s0n : X.s_0.heap.get? a = none := by
      cases q : X.s_0.heap.get? a with
      | none => rfl
      | some o =>
        obtain ⟨o', z⟩ := J.base.there a o q (by rw [hex]; exact fun w => nomatch w)
        rw [sIn] at z
        exact nomatch z
    have np' : ∀ p ∈ X.pn ++ pins, p.1 ≠ a := fun p hp z => by
      obtain ⟨e, _⟩ := J.pin p hp
      rw [z, sIn] at e
      exact nomatch e
    have S3 := J3.suite he3 hd3 na nL nF
    have LT : PySem.W.Looks (model X.prog X.w) h3 (typeOf (.ref a)) cls := fun A Q E s k q => wpAny_typeOf_ref (k _ _ he3) (by rw [hz3.1]; exact q)
    refine wpAny_handleBy_cons (codeAny_handlers_test ?_) (by intro q; cases q)
    refine hb1 a oe3 (X.pn ++ pins) [] σ' H' { s' with heap := h3 } _ _ S3 LT fun h3' kp => ?_
    have fl3' := flying_more fl3 kp
    have up3' : h3.UpToSlots h3' := Heap.UpToSlots.of_keeps kp
    cases b with
    | true =>
      obtain ⟨C, rfl, keep⟩ := hyes rfl
      refine codeAny_handlers_suite_as ?_
      refine HandSPX.lands_againZ fl3' fun h4 fl4 up4 => ?_
      have J4 : Inv X pins σ' H' { s' with heap := h4 } := J.landed nb fl4.1 (((up.trans up3).trans up3').trans up4) os ag
      obtain ⟨oe4, vs4, he4, hz4, hd4⟩ := fl4.there
      have S4 := J4.suite he4 hd4 na nL nF
      refine store_ok (X := X.suite a ((a, oe4) :: (X.pn ++ pins))) (v := .ref a) S4 hN hi (.inl hln) rfl (fun s5 S5 => ?_) (.inr hln)
      have li : i < σ'.length := by rw [J.len]; exact (List.getElem?_eq_some_iff.mp hi).1
      have one : PSs (X.suite a ((a, oe4) :: (X.pn ++ pins))) [.Assign [.Name m mp] (.Name n np) ap] (tAsg (tVar i) (gName j)) :=
        pss_one (ps_asg (X := X.suite a ((a, oe4) :: (X.pn ++ pins))) (pe_var hi (.inl hln) hdn hcn) (pg_name hN hj (.inl hlm) (.inr hlm)) hs')
      refine wpAny_mono (one.run [] s5 _ H' { nx := fun σ6 H6 => σ6 = (σ'.set i (some (.ref a))).set j (some (.ref a)) ∧ H6 = H', rt := fun _ _ => False, bk := fun _ _ => False, ct := fun _ _ => False } S5 ?_) (fun f s6 ended => ?_) (fun _ _ z => False.elim z)
      · exact ⟨.ref a, List.getElem?_set_self li, rfl, rfl⟩
      · cases f with
        | next =>
          obtain ⟨σ6, H6, S6, e6, eH⟩ := ended
          subst e6
          subst eH
          refine gone_ok (suite_out S6 ok) hN hi hln fun s7 J7 => ?_
          exact ⟨_, _, inv_track J7 hz4 hd4 s0n np', keep a na⟩
        | brk =>
          obtain ⟨_, _, _, z⟩ := ended
          exact z.elim
        | cont =>
          obtain ⟨_, _, _, z⟩ := ended
          exact z.elim
        | ret u =>
          obtain ⟨_, _, _, _, _, z⟩ := ended
          exact z.elim
    | false =>
      show wpAny _ X.A (handleBy (.ref a) X.env []) _ _ _
      refine wpAny_handleBy_nil ?_
      obtain ⟨k1, k2, k3, oe, vs, T, oT, ts', he, hz, hd, h1, hr⟩ := id fl3'
      unfold PySem.passOn
      refine wpAny_bind (wpAny_field he hd h1 ?_)
      rw [if_neg (show ¬ ((Value.ref T == Value.none) = true) by simp)]
      have goes : wpAny (model X.prog X.w) X.A (setFlight (.ref a) X.env.frame) (fun _ s4 => wpAny (model X.prog X.w) X.A (throw (.ref a) : Sem Flow) (SP X pins N) X.xe s4) X.xe { s' with heap := h3' } := by
        rw [hf]
        refine HandSPX.setFlight_upZ fl3' fun h4 held up4 => wpAny_throw (tk _ _ ?_)
        refine ⟨a, B, sI, pins, σ', H', cls, d, rfl, J, nb, ((up.trans up3).trans up3').trans up4, .inr (.inr ?_), na, os, ag, hno rfl⟩
        rw [hs]; exact held
      first
        | exact wpAny_bind (wpAny_pure (wpAny_bind goes))
        | exact wpAny_bind goes
  · cases f with
    | next =>
      obtain ⟨σ', H', J', q⟩ := ended
      exact wpAny_execs_nil ⟨σ', H', J'.ofTry ok, q⟩
    | brk =>
      obtain ⟨σ', H', J', q⟩ := ended
      exact ⟨σ', H', J'.ofTry ok, q⟩
    | cont =>
      obtain ⟨σ', H', J', q⟩ := ended
      exact ⟨σ', H', J'.ofTry ok, q⟩
    | ret u =>
      obtain ⟨v, σ', H', J', r, q⟩ := ended
      exact ⟨v, σ', H', J'.ofTry ok, r, q⟩
end
end Z

set_option Elab.async false
set_option linter.all false
set_option maxRecDepth 100000
set_option maxHeartbeats 4000000
/-! Z34: such a try on trees; what is asked of the exception that was kept. -/
namespace Z
open PySem PySem.Spec PyProof.Rows L2
/-- Kn: the classes that may come; Cs: those that the clause names; i: the clause's name, j: where it is kept -/
def tryS (Kn Cs : List Str) (i j : Nat) (body : MS) : MS := fun r => match body r with
  | some (.exc C ns ds r1) => if C ∈ Kn then (if C ∈ Cs then (if ns.length = ds.length ∧ i < r1.length ∧ j < r1.length ∧ i ≠ j then some (.nx ((r1.set j (some (.xcp C ns ds))).set i none)) else none) else some (.exc C ns ds r1)) else none
  | x => x
section
variable {X : Cx} {c : Ctx} {n m : Str} {i j : Nat} {body : List Stmt} {te : Expr} {mp np ap pos pos' : Pos} {mb : MS} {Kn Cs : List Str}
theorem W.xcp {G : Cfg} {B : Bs} {H : Hp} {a : Addr} {C : Str} {d : Option Addr} {ns : List Str} {vs : List V} {ds : List D} {g : List It} (w : W G B H (vs.zip ds ++ g)) (hl : vs.length = ds.length) (hn : ns.length = ds.length) (na : H a = none) (xd : XdAt H d ns vs) :
    W G B (upd H a (Xo (G.cls C) d a)) ((.ref a, .xcp C ns ds) :: g) := by
  have w1 := w.laid (o := Xo (G.cls C) d a) na
  obtain ⟨F, O, wf, h⟩ := w1
  obtain ⟨O1, O2, h1, h2, e⟩ := Own.app.mp h
  refine ⟨F, O, wf, O1, O2, ?_, h2, e⟩
  simp only [Tr]
  refine ⟨a, d, vs, rfl, upd_same, xd.imp id fun ⟨dx, e1, e2⟩ => ⟨dx, e1, by rw [upd_ne (ne_of_none e2 na)]; exact e2⟩, hn, (Own.kids hl).mp h1⟩
theorem z_try (hio : ∀ p ∈ c.ios, p.1 ≠ i ∧ p.1 ≠ j) (hs : X.stack = X.env :: X.outer) (hf : X.env.frame = some X.env.locals) (hex : X.ex = []) (hN : X.N.Nodup) (hi : X.N[i]? = some n) (hln : X.env.kindOf n = some .local) (hj : X.N[j]? = some m) (hlm : X.env.kindOf m = some .local)
    (tk : Takes X (fun cls d σ H => c.E σ cls d H)) (hdn : (n == ("__debug__" : Str)) = false) (hcn : (n == ("__classdict__" : Str)) = false)
    (hb : ∀ (W : WX) (pn : List (Addr × Obj)) (xe : Value → Shared → Prop), Takes (X.tr pn xe) W → PassesOwn (model X.prog X.w) X.A X.env xe → PSs (X.tr pn xe) body (tS ⟨c.G, c.B, c.ios, fun σ cls d H => W cls d σ H⟩ mb))
    (ht : ∀ C ∈ Kn, CaTest X te (.ref (c.G.cls C)) (decide (C ∈ Cs)))
    (hs' : swapsWith (.Name n np) none ap.line X.env = pure false := by rfl) :
    PS X (.Try body [.ExceptHandler (some te) (some n) [.Assign [.Name m mp] (.Name n np) ap] pos'] [] [] pos) (tS c (tryS Kn Cs i j mb)) := by
  refine ps_imp (ps_try_keep (tb := fun W => tS ⟨c.G, c.B, c.ios, fun σ cls d H => W cls d σ H⟩ mb) hs hf hex hN hi hln hj hlm tk hdn hcn hb hs') fun N σ H h => ?_
  obtain ⟨r, e, x, now, hx, fin⟩ := h
  have alc : ∀ {σ : L2.St} {r : Rho} {E : L2.St → XK}, Alx ⟨c.G, c.B, c.ios, E⟩ σ r → Alx c σ r := fun a => ⟨a.al, a.io⟩
  have nowc : ∀ {E : L2.St → XK}, Now ⟨c.G, c.B, c.ios, E⟩ σ H [] r e := fun {E} => ⟨⟨now.al.al, now.al.io⟩, now.vok, now.w⟩
  unfold tryS at hx
  cases q : mb r with
  | none => rw [q] at hx; cases hx
  | some y =>
    rw [q] at hx
    cases y with
    | nx r1 => cases hx; exact ⟨r, e, _, nowc, q, fun σ' H' a w => fin σ' H' (alc a) w⟩
    | bk r1 => cases hx; exact ⟨r, e, _, nowc, q, fun σ' H' a w => fin σ' H' (alc a) w⟩
    | ct r1 => cases hx; exact ⟨r, e, _, nowc, q, fun σ' H' a w => fin σ' H' (alc a) w⟩
    | rt d r1 => cases hx; exact ⟨r, e, _, nowc, q, fun v σ' H' a w => fin v σ' H' (alc a) w⟩
    | exc C ns ds r1 =>
      dsimp only at hx
      split at hx
      · rename_i hk
        split at hx
        · rename_i hc
          split at hx
          · rename_i hq
            obtain ⟨hl, li, lj, ij⟩ := hq
            cases hx
            refine ⟨r, e, _, nowc, q, fun σ' vs d H' a hlen w xd => ?_⟩
            refine ⟨_, ht C hk, fun _ => ⟨c.G.cls C, rfl, fun a0 na => ?_⟩, fun z => ?_⟩
            · have w1 := w.xcp (a := a0) (C := C) hlen hl na xd
              have a1 : Al σ' r1 := a.al
              have ls : σ'.length = r1.length := a1.len
              refine fin _ _ ⟨⟨by simp [ls], fun k d' hk' => ?_⟩, fun p hp => ?_⟩ ?_
              · by_cases ki : k = i
                · subst ki
                  rw [List.getElem?_set_self (by simp; exact li)] at hk'
                  simp at hk'
                · rw [List.getElem?_set_ne (Ne.symm ki)] at hk' ⊢
                  by_cases kj : k = j
                  · subst kj
                    exact ⟨.ref a0, by rw [List.getElem?_set_self (by simp [ls]; exact lj)]⟩
                  · rw [List.getElem?_set_ne (Ne.symm kj)] at hk' ⊢
                    rw [List.getElem?_set_ne (Ne.symm ki)]
                    exact a1.has k d' hk'
              · obtain ⟨p1, p2⟩ := hio p hp
                rw [List.getElem?_set_ne (Ne.symm p1), List.getElem?_set_ne (Ne.symm p2), List.getElem?_set_ne (Ne.symm p1)]
                exact a.io p hp
              · have e1 : ((σ'.set i (some (.ref a0))).set j (some (.ref a0))).set i none = (σ'.set j (some (.ref a0))).set i none := by
                  rw [List.set_comm _ _ ij, List.set_set]
                rw [e1]
                have w2 := w1.put a1 lj
                have a2 : Al (σ'.set j (some (.ref a0))) (r1.set j (some (.xcp C ns ds))) := ⟨by simp [ls], fun k d' hk' => by
                  by_cases kj : k = j
                  · subst kj
                    exact ⟨.ref a0, by rw [List.getElem?_set_self (by rw [ls]; exact lj)]⟩
                  · rw [List.getElem?_set_ne (Ne.symm kj)] at hk' ⊢
                    exact a1.has k d' hk'⟩
                exact W.wipe (vs := [i]) w2 a2
            · simp [hc] at z
          · cases hx
        · rename_i hc
          cases hx
          refine ⟨r, e, _, nowc, q, fun σ' vs d H' a hlen w xd => ?_⟩
          exact ⟨_, ht C hk, fun z => by simp [hc] at z, fun _ => fin σ' vs d H' (alc a) hlen w xd⟩
      · cases hx
end
end Z

set_option Elab.async false
set_option linter.all false
set_option maxRecDepth 100000
set_option maxHeartbeats 4000000
/-! Z35: isinstance(error, C), error.f of a kept exception; classes of the module by name. -/
namespace Z
open PySem PySem.Spec PyProof.Rows L2
/-- what is known of the exception classes: those of the module, the built-in ones that are asked about, which of these stand over each -/
structure XK_ where
  Kn : List Str
  Bt : List String
  bs : Str → List String
structure XcF (K : PySem.W.Frag) (cls : Str → Addr) (k : XK_) : Prop where
  c : ∀ C ∈ k.Kn, ExcC K (cls C) ∧ (PySem.W.clsIn K (cls C)).isSome = true
  one : ∀ C ∈ k.Kn, ∀ C' ∈ k.Kn, PySem.W.kitOne K (.ref (cls C)) (.ref (cls C')) = some (decide (C = C'))
  oneB : ∀ C ∈ k.Kn, ∀ T ∈ k.Bt, PySem.W.kitOne K (.ref (cls C)) (.type T) = some (decide (T ∈ k.bs C))
  non : ∀ C ∈ k.Kn, PySem.W.kitOne K (.type "NoneType") (.ref (cls C)) = some false
  nonB : ∀ T ∈ k.Bt, PySem.W.kitOne K (.type "NoneType") (.type T) = some false
/-- the classes of a tuple -/
def clsD : List D → Option (List Str)
  | [] => some []
  | .cls C :: r => (clsD r).map (C :: ·)
  | _ => none
def isxS (k : XK_) : List D → Option D
  | [.xcp C _ _, .cls C'] => if C ∈ k.Kn ∧ C' ∈ k.Kn then some (.bl (decide (C = C'))) else none
  | [.xcp C _ _, .ty T] => if C ∈ k.Kn ∧ T ∈ k.Bt then some (.bl (decide (T ∈ k.bs C))) else none
  | [.non, .cls C'] => if C' ∈ k.Kn then some (.bl false) else none
  | [.non, .ty T] => if T ∈ k.Bt then some (.bl false) else none
  | [.xcp C _ _, .tup l] => (clsD l).bind fun Cs => if C ∈ k.Kn ∧ (∀ x ∈ Cs, x ∈ k.Kn) then some (.bl (decide (C ∈ Cs))) else none
  | [.non, .tup l] => (clsD l).bind fun Cs => if (∀ x ∈ Cs, x ∈ k.Kn) then some (.bl false) else none
  | _ => none
theorem heap_of (n : Nat) : ∃ h : Heap, h.objs.size = n := by
  induction n with
  | zero => exact ⟨{ objs := #[] }, rfl⟩
  | succ n ih =>
    obtain ⟨h, e⟩ := ih
    exact ⟨h.push { cls := .none, data := .plain }, by rw [Heap.size_push, e]⟩
theorem Xo.inj {C : Addr} {d d' : Option Addr} {a : Addr} (e : Xo C d a = Xo C d' a) : d = d' := by
  unfold Xo at e
  have q := HO.ext.inj e
  obtain ⟨h, hs⟩ := heap_of a
  have got : (h.push { cls := .ref C, dict := d, data := .fields #[] }).get? a = some { cls := .ref C, dict := d, data := .fields #[] } := by
    rw [← hs]; exact Heap.get?_push_size h rfl
  have := (congrFun q (h.push { cls := .ref C, dict := d, data := .fields #[] })).mp ⟨_, _, got, ⟨rfl, rfl⟩, rfl⟩
  obtain ⟨oe, vs, e1, ⟨_, e2⟩, _⟩ := this
  rw [got] at e1
  cases e1
  exact e2
section
variable {X : Cx} {G : Cfg} {B : Bs} {H : Hp} {g : List It} {v : V} {d : D} {k : XK_}
theorem W.clsAt {C : Str} (w : W G B H g) (m : (v, .cls C) ∈ g) : v = .ref (G.cls C) := by
  obtain ⟨F, O, _, h⟩ := w
  obtain ⟨O1, t⟩ := h.mem _ m
  simp only [Tr] at t; exact t.1
theorem W.xcpAt {C : Str} {ns : List Str} {l : List D} (w : W G B H g) (m : (v, .xcp C ns l) ∈ g) : ∃ a d xs, v = .ref a ∧ H a = some (Xo (G.cls C) d a) ∧ XdAt H d ns xs ∧ ns.length = l.length ∧ Kids G H g xs l := by
  obtain ⟨F, O, _, h⟩ := w
  obtain ⟨O1, t⟩ := h.mem _ m
  simp only [Tr] at t
  obtain ⟨a, d, xs, e, e1, e2, e3, h2⟩ := t
  rcases e2 with ⟨rfl, rfl⟩ | ⟨dx, rfl, e2⟩
  · have : l = [] := by cases l with
      | nil => rfl
      | cons _ _ => simp at e3
    subst this
    exact ⟨a, none, xs, e, e1, .inl ⟨rfl, rfl⟩, e3, .of h2.len fun F' O' h' => ⟨[], by simp only [TrL] at h2 ⊢; exact ⟨h2.1, trivial⟩⟩⟩
  · refine ⟨a, some dx, xs, e, e1, .inr ⟨dx, rfl, e2⟩, e3, .of h2.len fun F' O' h' => ?_⟩
    obtain ⟨O3, t3⟩ := h'.mem _ m
    simp only [Tr] at t3
    obtain ⟨b, d', ys, q1, q2, q3, q4, h3⟩ := t3
    rw [e] at q1
    cases q1
    rw [e1] at q2
    have ed : some dx = d' := Xo.inj (Option.some.inj q2)
    subst ed
    rcases q3 with ⟨z, _⟩ | ⟨dx', z, q3⟩
    · cases z
    · cases z
      rw [e2] at q3
      have ez : ns.zip xs = ns.zip ys := by
        have := Option.some.inj q3
        exact HO.xd.inj this
      have l1 : xs.length = ns.length := by rw [h2.len, e3]
      have l2 : ys.length = ns.length := by rw [h3.len, e3]
      have ex : xs = ys := by
        have h1 := congrArg (List.map Prod.snd) ez
        rw [List.map_snd_zip (by omega), List.map_snd_zip (by omega)] at h1
        exact h1
      subst ex
      exact ⟨O3, h3⟩
theorem kit_is {K : PySem.W.Frag} {t : Value} {cls : Str → Addr} {Q : Str → Bool} : ∀ {Cs : List Str}, (∀ C ∈ Cs, PySem.W.kitOne K t (.ref (cls C)) = some (Q C)) → PySem.W.kitAny K t (Cs.map fun C => Value.ref (cls C)) = some (Cs.any Q)
  | [], _ => kitAny_nil
  | C :: Cs, h => by
    rw [List.map_cons, List.any_cons]
    refine kitAny_cons (h C List.mem_cons_self) (fun e => ?_) fun e => ?_
    · rw [e, Bool.false_or]; exact kit_is fun C hC => h C (List.mem_cons_of_mem _ hC)
    · rw [e, Bool.true_or]
theorem TrL.cls {F : Addr → Prop} : ∀ {l : List D} {xs : List V} {O : List Addr} {Cs : List Str}, clsD l = some Cs → TrL G H F l xs O → xs = Cs.map fun C => V.ref (G.cls C)
  | [], _, _, _, e, h => by cases e; simp only [TrL] at h; rw [h.1] <;> rfl
  | d :: r, _, _, Cs, e, h => by
    cases d with
    | cls C =>
      simp only [clsD, Option.map_eq_some_iff] at e
      obtain ⟨Cs', e1, e2⟩ := e
      subst e2
      simp only [TrL] at h
      obtain ⟨x, ys, O1, O2, rfl, h1, h2, _⟩ := h
      simp only [Tr] at h1
      rw [h1.1, TrL.cls e1 h2]
      rfl
    | _ => cases e
theorem vals_cls : ∀ {Cs : List Str} {ws : List Value}, Vals (Cs.map fun C => V.ref (G.cls C)) ws → ws = Cs.map fun C => Value.ref (G.cls C)
  | [], ws, h => by cases h; rfl
  | C :: Cs, ws, h => by
    cases h with
    | @cons _ u _ us' ra rb =>
      have : u = Value.ref (G.cls C) := ra
      rw [this, vals_cls rb]
      rfl
/-- the object of a kept exception -/
theorem xo_inst {pins : List (Addr × Obj)} {σ : L2.St} {s : Shared} {a C : Addr} {d : Option Addr} {ns : List Str} {xs : List V} (I : Inv X pins σ H s) (e : H a = some (Xo C d a)) (xd : XdAt H d ns xs) : ∃ oe od, PySem.W.InstAt s.heap a oe C od := by
  have q : ObjOk X.prog X.w H s.heap a (Xo C d a) := I.hok a _ e
  obtain ⟨⟨oe, vs, e1, ⟨e2, e3⟩, e4⟩, _, _⟩ := q
  have no : PySem.W.notCls oe = true := by unfold PySem.W.notCls; rw [e4] <;> rfl
  rcases xd with ⟨rfl, _⟩ | ⟨dx, rfl, e5⟩
  · exact ⟨oe, none, e1, e2, no, by rw [e3]; trivial⟩
  · have q2 : ObjOk X.prog X.w H s.heap dx (.xd (ns.zip xs)) := I.hok dx _ e5
    obtain ⟨mA, hns, _⟩ := q2
    obtain ⟨od, ho, _⟩ := lookIn_ns hns
    exact ⟨oe, some od, e1, e2, no, by rw [e3]; exact ho⟩
theorem isx_ok (T : XcF G.K G.cls k) (hG : G.K = X.K) : CallR X (.builtin "isinstance") (rZ false G (isxS k)) := by
  intro pins s σ H xs us Q I r h
  obtain ⟨B, g, ds, d, w, hl, hm, hk, hf, q⟩ := h
  have bl : ∀ b, W G B H ((V.bl b, D.bl b) :: g) := fun b => w.add (Cp.triv fun F => by simp [Tr])
  unfold isxS at hf
  split at hf
  · rename_i C ns l C'
    split at hf
    · rename_i hq
      cases hf
      match xs, hl with
      | [x, y], _ =>
      obtain ⟨m1, m2⟩ := mem2 hm
      have e2 := w.clsAt m2
      obtain ⟨a, dd, ys, e1, h1, xd, _, _⟩ := w.xcpAt m1
      subst e1 e2
      obtain ⟨u1, u2, rfl, r1, r2⟩ := vals2 r
      cases r1
      cases (show u2 = Value.ref (G.cls C') from r2)
      obtain ⟨oe, od, J⟩ := xo_inst I h1 xd
      obtain ⟨E, cl⟩ := T.c C hq.1
      rw [hG] at E cl
      have kit := T.one C hq.1 C' hq.2
      rw [hG] at kit
      exact PySem.W.kia_one (PySem.W.kitx_exc cl E.hg E.hk E.hs E.ha E.hn E.ht E.hm) I.kIn J kit (fun z => nomatch z) fun tk => ⟨.bl _, H, I.kept (t' := tk) fun _ _ z => z, rfl, q _ _ (bl _)⟩
    · cases hf
  · rename_i C ns l C'
    split at hf
    · rename_i hq
      cases hf
      match xs, hl with
      | [x, y], _ =>
      obtain ⟨m1, m2⟩ := mem2 hm
      have e2 := w.ty m2
      obtain ⟨a, dd, ys, e1, h1, xd, _, _⟩ := w.xcpAt m1
      subst e1 e2
      obtain ⟨u1, u2, rfl, r1, r2⟩ := vals2 r
      cases r1
      cases (show u2 = Value.type C' from r2)
      obtain ⟨oe, od, J⟩ := xo_inst I h1 xd
      obtain ⟨E, cl⟩ := T.c C hq.1
      rw [hG] at E cl
      have kit := T.oneB C hq.1 C' hq.2
      rw [hG] at kit
      exact PySem.W.kia_one (PySem.W.kitx_exc cl E.hg E.hk E.hs E.ha E.hn E.ht E.hm) I.kIn J kit (fun z => nomatch z) fun tk => ⟨.bl _, H, I.kept (t' := tk) fun _ _ z => z, rfl, q _ _ (bl _)⟩
    · cases hf
  · rename_i C'
    split at hf
    · rename_i hq
      cases hf
      match xs, hl with
      | [x, y], _ =>
      obtain ⟨m1, m2⟩ := mem2 hm
      have e1 := w.non m1
      have e2 := w.clsAt m2
      subst e1 e2
      have kit := T.non C' hq
      rw [hG] at kit
      exact call_isi pins s σ H _ us Q I r ⟨.non, .ref (G.cls C'), .type "NoneType", .ref (G.cls C'), _, rfl, .own _, .base .non, kit, q _ _ (bl _)⟩
    · cases hf
  · rename_i C'
    split at hf
    · rename_i hq
      cases hf
      match xs, hl with
      | [x, y], _ =>
      obtain ⟨m1, m2⟩ := mem2 hm
      have e1 := w.non m1
      have e2 := w.ty m2
      subst e1 e2
      have kit := T.nonB C' hq
      rw [hG] at kit
      exact call_isi pins s σ H _ us Q I r ⟨.non, .ty C', .type "NoneType", .type C', _, rfl, .ty _, .base .non, kit, q _ _ (bl _)⟩
    · cases hf
  · rename_i C ns l cl'
    simp only [Option.bind_eq_some_iff] at hf
    obtain ⟨Cs, hc, hf⟩ := hf
    split at hf
    · rename_i hq
      cases hf
      match xs, hl with
      | [x, y], _ =>
      obtain ⟨m1, m2⟩ := mem2 hm
      obtain ⟨a, dd, ys, e1, h1, xd, _, _⟩ := w.xcpAt m1
      obtain ⟨tp, zs, e2, h2, F, O, tt⟩ := w.tupT m2
      have ez := tt.cls hc
      subst e1 e2 ez
      obtain ⟨u1, u2, rfl, r1, r2⟩ := vals2 r
      cases r1
      cases (show u2 = Value.ref tp from r2)
      obtain ⟨oe, od, J⟩ := xo_inst I h1 xd
      obtain ⟨E, cl⟩ := T.c C hq.1
      rw [hG] at E cl
      have kit : PySem.W.kitAny X.K (.ref (G.cls C)) (Cs.map fun C => Value.ref (G.cls C)) = some (Cs.any fun C' => decide (C = C')) := kit_is fun C' hC' => by
        rw [← hG]; exact T.one C hq.1 C' (hq.2 C' hC')
      have eb : (Cs.any fun C' => decide (C = C')) = decide (C ∈ Cs) := by
        rw [Bool.eq_iff_iff]
        simp
      rw [eb] at kit
      have ot : ObjOk X.prog X.w H s.heap tp (.tup (Cs.map fun C => V.ref (G.cls C))) := I.hok tp _ h2
      obtain ⟨_, ws, rv, o, ho, hc2, n, hd2⟩ := ot
      have ew : ws = Cs.map fun C => Value.ref (G.cls C) := vals_cls rv
      subst ew
      obtain ⟨oc, od', oda, osl⟩ := o
      dsimp only at hc2 hd2
      subst hc2 hd2
      exact PySem.W.kia_tup (PySem.W.kitx_exc cl E.hg E.hk E.hs E.ha E.hn E.ht E.hm) I.kIn J ho kit (fun z => nomatch z) fun tk => ⟨.bl _, H, I.kept (t' := tk) fun _ _ z => z, rfl, q _ _ (bl _)⟩
    · cases hf
  · rename_i cl'
    simp only [Option.bind_eq_some_iff] at hf
    obtain ⟨Cs, hc, hf⟩ := hf
    split at hf
    · rename_i hq
      cases hf
      match xs, hl with
      | [x, y], _ =>
      obtain ⟨m1, m2⟩ := mem2 hm
      have e1 := w.non m1
      obtain ⟨tp, zs, e2, h2, F, O, tt⟩ := w.tupT m2
      have ez := tt.cls hc
      subst e1 e2
      have kit : PySem.W.kitAny X.K (.type "NoneType") (Cs.map fun C => Value.ref (G.cls C)) = some (Cs.any fun _ => false) := kit_is fun C' hC' => by
        rw [← hG]; exact T.non C' (hq C' hC')
      have eb : (Cs.any fun _ => false) = false := by simp
      rw [eb] at kit
      have pc : ∀ Cs : List Str, Paired ClsV (Cs.map fun C => V.ref (G.cls C)) (Cs.map fun C => Value.ref (G.cls C)) := fun Cs => by
        induction Cs with
        | nil => exact .nil
        | cons C Cs ih => exact .cons (.own _) ih
      exact call_isiT pins s σ H _ us Q I r ⟨.non, tp, _, .type "NoneType", _, _, rfl, by rw [h2, ez], pc Cs, .base .non, kit, q _ _ (bl _)⟩
    · cases hf
  · cases hf
/-- a class of the module, by its name -/
theorem z_gx {c : Ctx} {x : Str} {pos : Pos} (hg : Gl X x) (h : X.mg x = some (.ref (c.G.cls x))) (hd : (x == ("__debug__" : Str)) = false := by decide) : PE X (.Name x pos) (tm c (ret (.cls x))) := by
  refine ⟨fun pins s σ H Q I q => ?_⟩
  obtain ⟨r, e, y, n, hx, fin⟩ := q
  cases hx
  exact ld_glob I hg h ⟨.ref (c.G.cls x), H, I, rfl, fin _ _ n.al (n.w.add (Cp.triv fun F => by simp [Tr]))⟩ hd
def fldOf (f : Str) : List Str → List D → Option D
  | n :: ns, d :: ds => if f = n then some d else fldOf f ns ds
  | _, _ => none
theorem fldOf_at {f : Str} {d : D} : ∀ {ns : List Str} {l : List D} {xs : List V}, fldOf f ns l = some d → xs.length = l.length → ∃ (i : Nat) (v : V), xs[i]? = some v ∧ l[i]? = some d ∧ (ns.zip xs).lookup f = some v
  | [], [], _, h, _ => by cases h
  | [], _ :: _, _, h, _ => by cases h
  | _ :: _, [], _, h, _ => by cases h
  | n :: ns, e :: l, [], _, hl => by simp at hl
  | n :: ns, e :: l, x :: xs, h, hl => by
    unfold fldOf at h
    split at h
    · rename_i q
      cases h
      exact ⟨0, x, rfl, rfl, by subst q; simp [List.lookup]⟩
    · rename_i q
      obtain ⟨i, v, h1, h2, h3⟩ := fldOf_at h (by simpa using hl)
      refine ⟨i + 1, v, h1, h2, ?_⟩
      rw [List.zip_cons_cons, List.lookup, beq_eq_false_iff_ne.mpr q]
      exact h3
/-- error.f -/
def fldM (k : XK_) (f : Str) (m : M D) : M D := bnd m fun d r => match d with
  | .xcp C ns l => if C ∈ k.Kn then (match fldOf f ns l with
    | some e => if noOwn e = true then some (.ok e r) else none
    | none => none) else none
  | _ => none
theorem z_fld {c : Ctx} {e : Expr} {f : Str} {m : M D} {pos : Pos} (T : ∀ C ∈ k.Kn, XfC X.K (c.G.cls C) ∧ PySem.W.findIn X.K (.ref (c.G.cls C)) f = some none) (he : PE X e (tm c m)) (hb : attributeBase e f X.env (eval e X.env) = eval e X.env := by rfl) :
    PE X (.Attribute e f pos) (tm c (fldM k f m)) := by
  refine ⟨fun pins s σ H Q I q => ?_⟩
  obtain ⟨r, e0, y, n, hx, fin⟩ := q
  unfold fldM bnd at hx
  cases q1 : m r with
  | none => rw [q1] at hx; cases hx
  | some z =>
    rw [q1] at hx
    cases z with
    | exc C ns ds r1 =>
      cases hx
      refine attr_of hb (thn (he.run pins s σ H (fun _ _ => False) I ⟨r, e0, _, n, q1, fin⟩) fun u s1 got => ?_)
      obtain ⟨_, _, _, _, z⟩ := got
      exact z.elim
    | ok d r1 =>
      dsimp only at hx
      split at hx
      · rename_i C ns l
        split at hx
        · rename_i hk
          split at hx
          · rename_i e1 hf
            split at hx
            · rename_i ho
              cases hx
              obtain ⟨TX, free⟩ := T C hk
              refine attr_of hb (thn (he.run pins s σ H (fun v H1 => Alx c σ r1 ∧ W c.G c.B H1 ((v, .xcp C ns l) :: (e0 ++ envI σ r1))) I ⟨r, e0, _, n, q1, fun v H1 a w => ⟨a, w⟩⟩) fun u s1 got => ?_)
              obtain ⟨x, H1, I1, rx, al, w⟩ := got
              obtain ⟨a, dd, xs, ex, ha, xd, hl, kids⟩ := w.xcpAt List.mem_cons_self
              subst ex
              have eu : u = Value.ref a := rx
              subst eu
              obtain ⟨i, v, g1, g2, g3⟩ := fldOf_at hf kids.len
              have q2 : ObjOk X.prog X.w H1 s1.heap a (Xo (c.G.cls C) dd a) := I1.hok a _ ha
              obtain ⟨⟨oe, vs, o1, ⟨o2, o3⟩, o4⟩, _, _⟩ := q2
              rcases xd with ⟨_, z⟩ | ⟨dx, rfl, e5⟩
              · subst z
                cases l <;> cases hf
              · have q3 : ObjOk X.prog X.w H1 s1.heap dx (.xd (ns.zip xs)) := I1.hok dx _ e5
                obtain ⟨mA, hns, hr⟩ := q3
                obtain ⟨od, hod, hlk⟩ := lookIn_ns hns
                obtain ⟨u', hu, ru⟩ := RelO.some_of (v := v) (o := mA f) (by rw [← g3]; exact hr f)
                have J : PySem.W.InstAt s1.heap a oe (c.G.cls C) (some od) := ⟨o1, o2, by unfold PySem.W.notCls; rw [o4] <;> rfl, by rw [o3]; exact hod⟩
                refine HandSPX.exc_get I1.kIn J TX.ga TX.gg TX.exC (PySem.W.findObj_own TX.hdC free rfl (by rw [hlk, hu])) (handed_of ru) ⟨v, H1, I1.tok _, ru, ?_⟩
                exact fin v H1 al ((w.add (kids.cp i v e1 g1 g2 ho)).perm (List.Perm.swap _ _ _)).drop
            · cases hx
          · cases hx
        · cases hx
      · cases hx
end
end Z

set_option Elab.async false
set_option linter.all false
set_option maxRecDepth 100000
set_option maxHeartbeats 4000000
/-! Z36: x(lambda: body, names ..): a lambda handed to a def of the module, with names beside it. -/
namespace Z
open PySem PySem.Spec PyProof.Rows L2
/-- the values of slots -/
def tVars : List Nat → TA
  | [] => tNil
  | i :: is => tCons (tVar i) (tVars is)
def At (σ : L2.St) : List Nat → List V → Prop
  | [], vs => vs = []
  | i :: is, vs => ∃ v ws, vs = v :: ws ∧ σ[i]? = some (some v) ∧ At σ is ws
theorem tVars_at {σ : L2.St} {H : Hp} : ∀ {is : List Nat} {vs : List V} {Q : List V → Hp → Prop}, At σ is vs → Q vs H → tVars is σ H Q
  | [], _, _, e, q => by rw [show _ = [] from e] at q; exact q
  | i :: is, _, Q, ⟨v, ws, e, h, r⟩, q => ⟨v, h, tVars_at (Q := fun xs H2 => Q (v :: xs) H2) r (by rw [← e]; exact q)⟩
/-- the def that calls what it got: a calls it; TT: what it makes of the lambda's reading -/
def Gives (X : Cx) (k : Nat) (Ng : List Str) (x : Str) (sg : Scope) (g : Addr) (cdg : Value) (bg : List Stmt) (a : Str) (q : Str) (TT : (XK → Hp → VK → Prop) → List V → Hp → VK → Prop) : Prop :=
  ∀ (f c' : Addr) (s : Shared) (H : Hp) (Q : VK) (vs : List V) (tl : XK → Hp → VK → Prop), Room k (X.A.deeper (envOfC x sg s.heap.objs.size g cdg)) →
    (∀ (W : WX) (pn : List (Addr × Obj)) (xe : Value → Shared → Prop) (p1 p2 : Pos), Takes ((cxOf (L2.CX X.prog X.w) X.prog X.w X.K X.mg X.base Ng x sg g cdg X.A X.stack s H EFalse).tr pn xe) W →
      PE ((cxOf (L2.CX X.prog X.w) X.prog X.w X.K X.mg X.base Ng x sg g cdg X.A X.stack s H EFalse).tr pn xe) (.Call (.Name a p1) [] [] p2) (fun σZ HZ Q => σZ[0]? = some (some (.ref f)) ∧ HZ c' = some (LamX.CodeO c' q) ∧ tl (fun cls d H => W cls d σZ H) HZ Q)) →
    H c' = some (LamX.CodeO c' q) → TT tl vs H Q →
    ∃ t, PSs (cxOf (L2.CX X.prog X.w) X.prog X.w X.K X.mg X.base Ng x sg g cdg X.A X.stack s H EFalse) bg t ∧ t { nx := fun _ H' => Q .non H', rt := Q } (L2.start Ng (.ref f :: vs)) H
/-- what the making of a lambda does to the abstract heap -/
def Made (H H1 : Hp) (P c' : Addr) (q : Str) : Prop := H1 = H ∨ ∃ ps ps', H P = some (.tbl ps) ∧ H c' = none ∧ H1 = upd (upd H P (.tbl ps')) c' (LamX.CodeO c' q)
section
variable {X : Cx} {pins : List (Addr × Obj)} {σ : L2.St} {H : Hp} {s : Shared}
theorem Made.ext {H1 : Hp} {P c' : Addr} {q : Str} (m : Made H H1 P c' q) : LamX.ExtN H H1 := fun b o e nt => by
  rcases m with rfl | ⟨ps, ps', h1, h2, rfl⟩
  · exact e
  · rw [upd_ne (ne_of_none e h2), upd_ne (fun z => nt ps (by rw [z, h1] at e; exact (Option.some.inj e).symm))]
    exact e
/-- a lambda is made: its code object stands in the maker's table, or comes to stand there -/
theorem lam_new {T : List (Addr × Str)} {c P : Addr} {params : Arguments} {body : Expr} {scope : Scope} {pos : Pos} {E Q : Value → Shared → Prop} (I : Inv X pins σ H s) (TB : LamX.TabB X.base X.mg c P) (hcode : X.env.code = .ref c)
    (hm : (P, X.env.qual ++ "<lambda>") ∈ T) (hu : ∀ p ∈ T, p.1 = P → p.2 = X.env.qual ++ "<lambda>") (hT : LamX.Tabs T H) (hdef : defaultsOf params X.env = ([], [])) (hfree : ∀ y ∈ scope.names, y.2 = .free → ∃ c, X.env.cells.lookup y.1 = some c)
    (go : ∀ (f c' : Addr) (pm ctv : Value) (H1 : Hp) (s' : Shared), Inv X pins σ H1 s' → Made H H1 P c' (X.env.qual ++ "<lambda>") → LamX.Tabs T H1 →
      s'.heap.get? f = some (PySem.W.kla_obj "<lambda>" (X.env.qual ++ "<lambda>") params body scope (cloFrom X.env.cells scope.names []) pm c' ctv) → H1 f = none → f ∉ frs X.stack → (f ≠ X.env.locals ∧ f ∉ X.fs) → H1 c' = some (LamX.CodeO c' (X.env.qual ++ "<lambda>")) → Q (.ref f) s') :
    wpAny (model X.prog X.w) X.A (eval (.Lambda params body scope pos) X.env) Q E s := by
  obtain ⟨ps, atP, trip, among⟩ := hT (P, X.env.qual ++ "<lambda>") hm
  dsimp only at atP
  have seesB : s.heap.BuiltinsAt X.mg P := TB.bm.keeps I.bk
  have tabP : s.heap.get? P = some { cls := .none, data := .fields ps } := I.hok P _ atP
  have far : ∀ f, s.heap.objs.size ≤ f → f ∉ frs X.stack := fun f hf z => (List.mem_cons.mp (I.stkSub _ z)).elim
    (fun e => Nat.lt_irrefl _ (Nat.lt_of_lt_of_le (e ▸ I.lt) hf)) (I.nofs hf)
  have away : ∀ f, s.heap.objs.size ≤ f → f ≠ X.env.locals ∧ f ∉ X.fs := fun f hf => ⟨fun e => Nat.lt_irrefl _ (Nat.lt_of_lt_of_le (e ▸ I.lt) hf), I.nofs hf⟩
  refine PySem.W.kla_eval hdef ?_
  cases found : codeAmong pos ps.toList with
  | some cv =>
    obtain ⟨c', rfl, known⟩ := among pos cv found
    refine PySem.W.kla_makeFunctionHit (mg := X.mg) (c := c) (P := P) (ps := ps) (closure_ok hfree) I.ok.glob (I.mod.glob.keeps I.bk) hcode (TB.code.keeps I.bk) tabP trip found seesB ?_
    intro ctv h' tk keeps bigger
    refine go h'.objs.size c' ((X.mg "__name__").getD .none) ctv H _ ?_ (.inl rfl) hT (Heap.get?_push_size _ rfl) (I.hok.fresh bigger) (far _ bigger) (away _ bigger) known
    exact I.kept (t' := tk) fun b o e => Heap.get?_push_of_some _ (keeps b o e)
  | none =>
    refine PySem.W.kla_makeFunction (mg := X.mg) (c := c) (P := P) (ps := ps) (closure_ok hfree) I.ok.glob (I.mod.glob.keeps I.bk) hcode (TB.code.keeps I.bk) tabP trip found TB.gP seesB ?_
    intro c' ctv h' tk keeps above below record table
    obtain ⟨c2, oc, vs, tn, ec, o1, o2, o3⟩ := record
    cases ec
    have bigger : s.heap.objs.size ≤ h'.objs.size := Nat.le_trans above (Nat.le_of_lt below)
    have freeC : H c' = none := I.hok.fresh above
    have J := LamX.inv_table (q := X.env.qual ++ "<lambda>") (t' := tk) (more := #[rawInt pos.line, rawInt pos.col, .ref c']) (h' := h'.push (PySem.W.kla_obj "<lambda>" (X.env.qual ++ "<lambda>") params body scope (cloFrom X.env.cells scope.names []) ((X.mg "__name__").getD .none) c' ctv)) I atP
      (fun b o hb e => Heap.get?_push_of_some _ (keeps b o hb e)) (Heap.get?_push_of_some _ table) above ⟨oc, vs, tn, Heap.get?_push_of_some _ o1, o2, o3⟩
    have made : Made H (upd (upd H P (.tbl (ps ++ #[rawInt pos.line, rawInt pos.col, .ref c']))) c' (LamX.CodeO c' (X.env.qual ++ "<lambda>"))) P c' (X.env.qual ++ "<lambda>") := .inr ⟨ps, _, atP, freeC, rfl⟩
    have asList : (ps ++ #[rawInt pos.line, rawInt pos.col, .ref c']).toList = ps.toList ++ [rawInt pos.line, rawInt pos.col, .ref c'] := by simp
    refine go h'.objs.size c' ((X.mg "__name__").getD .none) ctv _ _ J made (fun p hp => ?_) (Heap.get?_push_size _ rfl) ?_ (far _ bigger) (away _ bigger) upd_same
    · by_cases isP : p.1 = P
      · rw [hu p hp isP, isP]
        refine ⟨_, (upd_ne (ne_of_none atP freeC)).trans upd_same, asList ▸ PySem.TriplesOk_snoc _ _ _ _ trip, fun p' cv hcv => ?_⟩
        rw [asList] at hcv
        rcases LamX.among_app _ trip hcv with z | z
        · obtain ⟨c0, e1, e2⟩ := among p' cv z
          exact ⟨c0, e1, made.ext _ _ e2 LamX.codeO_ne⟩
        · exact ⟨c', z, upd_same⟩
      · obtain ⟨qs, a1, a2, a3⟩ := hT p hp
        refine ⟨qs, (upd_ne (ne_of_none a1 freeC)).trans ((upd_ne isP).trans a1), a2, fun p' cv hcv => ?_⟩
        obtain ⟨c0, e1, e2⟩ := a3 p' cv hcv
        exact ⟨c0, e1, made.ext _ _ e2 LamX.codeO_ne⟩
    · have ne1 : h'.objs.size ≠ c' := Nat.ne_of_gt below
      have ne2 : h'.objs.size ≠ P := Nat.ne_of_gt (Nat.lt_of_lt_of_le (Heap.lt_size tabP) bigger)
      exact (upd_ne ne1).trans ((upd_ne ne2).trans (I.hok.fresh bigger))
end
def tLam2 (T : List (Addr × Str)) (P : Addr) (q : Str) (is : List Nat) (TT : (XK → Hp → VK → Prop) → List V → Hp → VK → Prop) (t : XK → TE) : TE := fun σ H Q => LamX.Tabs T H ∧ ∃ vs, At σ is vs ∧ ∀ H1 c', Made H H1 P c' q → LamX.Tabs T H1 →
  TT (fun E H' Q' => t E σ H' Q') vs H1 Q
section
variable {X : Cx}
theorem lam_act {HZ0 : Hp} {pins : List (Addr × Obj)} {σ : L2.St} {H : Hp} {s : Shared} {CXg : CXT} {Eg : XK} {Ng : List Str} {qg : Str} {sg : Scope} {g f c' : Addr} {cdg pm ctv : Value} {params : Arguments} {body : Expr} {scope : Scope} {k i : Nat} {a : Str} {pn : List (Addr × Obj)} {xe : Value → Shared → Prop} {W : WX} {t : XK → TE} {p1 p2 : Pos}
    (I : Inv X pins σ H s) (L : LamX.LamS X.env.scope scope) (hf : s.heap.get? f = some (PySem.W.kla_obj "<lambda>" (X.env.qual ++ "<lambda>") params body scope (cloFrom X.env.cells scope.names []) pm c' ctv)) (hfn : H f = none) (hfr : f ∉ frs X.stack)
    (hbind : bindArgs (PySem.W.kla_fn "<lambda>" (X.env.qual ++ "<lambda>") params body scope (cloFrom X.env.cells scope.names []) pm (.ref c') ctv) ⟨[], []⟩ = pure [])
    (tk : Takes ((cxOf CXg X.prog X.w X.K X.mg X.base Ng qg sg g cdg X.A X.stack s H Eg).tr pn xe) W) (hr : Room (k + 1) (X.A.deeper (envOfC qg sg s.heap.objs.size g cdg)))
    (hbody : ∀ (A : Around) (outer : List Env) (s : Shared) (H : Hp) (E : XK), Room k (A.deeper (LamX.lamEnv X scope s.heap.objs.size f c')) → PE (LamX.lamCx X A outer s H E scope f c') body (t E))
    (hN : Ng[i]? = some a) (hv : Vis sg a) (hd : (a == ("__debug__" : Str)) = false) (hcd : (a == ("__classdict__" : Str)) = false) :
    PE ((cxOf CXg X.prog X.w X.K X.mg X.base Ng qg sg g cdg X.A X.stack s H Eg).tr pn xe) (.Call (.Name a p1) [] [] p2)
      (fun σZ HZ Q => σZ[i]? = some (some (.ref f)) ∧ HZ c' = some (LamX.CodeO c' (X.env.qual ++ "<lambda>")) ∧ t (fun cls d H => W cls d σZ H) σ HZ Q) := by
  refine ⟨fun pinsZ sZ σZ HZ Q IZ ask => ?_⟩
  obtain ⟨slot, code, want⟩ := ask
  refine wpAny_Call_Name_kw (thn ((pe_var (pos := p1) (i := i) hN hv hd hcd).run pinsZ sZ σZ HZ (fun v H1 => v = .ref f ∧ H1 = HZ) IZ ⟨.ref f, slot, rfl, rfl⟩) fun u s1 got => ?_)
  obtain ⟨v, H1, I1, r1, ev, eH⟩ := got
  subst ev
  rw [eH] at I1
  have eu : u = Value.ref f := r1
  subst eu
  have stands : s1.heap.get? f = some (PySem.W.kla_obj "<lambda>" (X.env.qual ++ "<lambda>") params body scope (cloFrom X.env.cells scope.names []) pm c' ctv) :=
    I1.base.keep f _ hf hfn hfr (fun z => nomatch (show f ∈ ([] : List Addr) from z))
  refine PySem.W.callWith_F0 ⟨_, _, _, _, stands⟩ ?_
  have since : Un (frs X.stack) [] H HZ s.heap s1.heap := I1.base
  obtain ⟨⟨oc, ws, tn, o1, o2, o3⟩, _, _⟩ := I1.hok c' _ code
  have ran : codeAny (model X.prog X.w) (X.A.deeper (envOfC qg sg s.heap.objs.size g cdg)) (.call (.ref f) ⟨[], []⟩)
      (CR (L2.CX X.prog X.w) (envOfC qg sg s.heap.objs.size g cdg :: X.stack) X.prog X.w HZ s1 Q (fun cls d H => W cls d σZ H)) s1 := by
    refine PySem.W.kla_callFunE hr.depth stands rfl L.co L.gen rfl ⟨c', oc, ws, tn, rfl, o1, o2, o3⟩ ?_
    rw [hbind]
    refine wpAny_pure (wpAny_newFunctionEnv (fun y hy => (L.own y hy).2) (fun y hy => absurd hy (by simp)) (fun h₁ hns hsb => ⟨I1.nolimit.fresh _ hsb, ?_⟩) L.kind)
    show codeAny _ _ (.expr body (LamX.lamEnv X scope s1.heap.objs.size f c')) _ _
    have J := LamX.lam_start2 (E := fun cls d H => W cls d σZ H) (A := X.A.deeper (envOfC qg sg s.heap.objs.size g cdg)) (outer := envOfC qg sg s.heap.objs.size g cdg :: X.stack) (HZ := HZ) (f := f) (c' := c') (tk := s1.toks + ([] : List (Str × Value)).length) I L I1.env0 hr.hd since hns
      (fun b o e => hsb.extBut b o (Nat.ne_of_lt (Heap.lt_size e)) (Heap.get?_push_of_some _ e))
    refine PySem.W.kla_codeExpr (wpAny_mono ((hbody _ _ s1 HZ _ (hr.deeper _)).run [] _ _ HZ Q J want) (fun v s' got => ?_) fun e s' got => got)
    obtain ⟨y, H', J', rv, q⟩ := got
    exact ⟨y, H', J'.os, J'.bare, J'.base, J'.hok, rv, q⟩
  refine wpAny_call (codeAny_mono ran fun r s' got => ?_)
  match r, got with
  | .error e, got => exact passAt tk σZ pinsZ HZ s1 e s' I1 got
  | .ok (.ret u), got => exact I1.after got
  | .ok .next, got => exact got.elim
  | .ok .brk, got => exact got.elim
  | .ok .cont, got => exact got.elim
theorem pe_lam2 {T : List (Addr × Str)} {TT : (XK → Hp → VK → Prop) → List V → Hp → VK → Prop} {x a : Str} {as : List Str} {g c P : Addr} {k : Nat} {pg : Arguments} {bg : List Stmt} {sg : Scope} {dV kV doc pm cdv ct oc : Value} {an od : Option Addr} {osl : Array (Option Value)} {Ng : List Str}
    {params : Arguments} {body : Expr} {scope : Scope} {t : XK → TE} {es : List Expr} {is : List Nat} {p lpos pos : Pos} (hg : Gl X x) (hm : X.mg x = some (.ref g)) (hk : PySem.W.keepIn X.K (.ref g) = true)
    (lk : X.K.lookup g = some ⟨oc, od, .func (PySem.W.fnOf x x pg bg sg dV kV doc pm an cdv ct), osl⟩) (hcg : PySem.W.codeIn X.K cdv x = true) (hb : L2.Binds X.K (PySem.W.fnOf x x pg bg sg dV kV doc pm an cdv ct) (a :: as) []) (Sg : FnScope Ng (a :: as) sg) (hNg : Ng[0]? = some a) (hva : Vis sg a)
    (hla : as.length = is.length) (hG : Gives X (k + 1) Ng x sg g cdv bg a (X.env.qual ++ "<lambda>") TT)
    (TB : LamX.TabB X.base X.mg c P) (hcode : X.env.code = .ref c) (hmT : (P, X.env.qual ++ "<lambda>") ∈ T) (hu : ∀ p ∈ T, p.1 = P → p.2 = X.env.qual ++ "<lambda>") (hr : Room (k + 2) X.A) (L : LamX.LamS X.env.scope scope) (hdef : defaultsOf params X.env = ([], []))
    (hbind : ∀ (q : Str) (cl : List (Str × Addr)) (pm cv ctv : Value), bindArgs (PySem.W.kla_fn "<lambda>" q params body scope cl pm cv ctv) ⟨[], []⟩ = pure []) (hpa : PA X es (tVars is))
    (hbody : ∀ (A : Around) (outer : List Env) (s : Shared) (H : Hp) (E : XK) (f c' : Addr), Room k (A.deeper (LamX.lamEnv X scope s.heap.objs.size f c')) → PE (LamX.lamCx X A outer s H E scope f c') body (t E))
    (hdb : (x == ("__debug__" : Str)) = false := by decide) (hd : (a == ("__debug__" : Str)) = false := by decide) (hcd : (a == ("__classdict__" : Str)) = false := by decide)
    (he : starEach (.Lambda params body scope lpos :: es) X.env = (false, eval (.Lambda params body scope lpos) X.env) :: starEach es X.env := by rfl) (hpl : (backTo pos (starEach es X.env)).any (·.1) = false := by rfl) :
    PE X (.Call (.Name x p) (.Lambda params body scope lpos :: es) [] pos) (tLam2 T P (X.env.qual ++ "<lambda>") is TT t) := by
  refine ⟨fun pins s σ H Q I h => ?_⟩
  obtain ⟨hT, vs, hat, h⟩ := h
  refine wpAny_Call_Name_kw (ld_glob I hg hm ?_ hdb)
  refine PySem.W.callWith_K (h₀ := X.base) I.ok.mod.kin hk ?_ he hpl
  rw [he]
  refine Calls.spliced_cons (lam_new I TB hcode hmT hu hT hdef (L.has I.ok) fun f c' pm' ctv H1 s' I1 made T1 hf hfn hfr hfa hco => ?_)
  have I1p : Inv X ((f, PySem.W.kla_obj "<lambda>" (X.env.qual ++ "<lambda>") params body scope (cloFrom X.env.cells scope.names []) pm' c' ctv) :: pins) σ H1 s' :=
    ⟨I1.ok, I1.os, I1.bare, I1.base, I1.loc, I1.cell, I1.free, I1.freeC, fun p hp => by
        rcases List.mem_append.mp hp with q | q
        · exact I1.pin p (List.mem_append_left _ q)
        · rcases List.mem_cons.mp q with q | q
          · rw [q]; exact ⟨hf, hfn, hfa.1, hfa.2, fun v z => by cases z⟩
          · exact I1.pin p (List.mem_append_right _ q), I1.hok, I1.len⟩
  refine thn (hpa.run pos _ s' σ H1 (fun ws H2 => ws = vs ∧ H2 = H1) I1p (tVars_at hat ⟨rfl, rfl⟩)) fun us s2 got => ?_
  obtain ⟨ws, H2, I2p, rv, ew, eH⟩ := got
  have I2 : Inv X pins σ H2 s2 := ⟨I2p.ok, I2p.os, I2p.bare, I2p.base, I2p.loc, I2p.cell, I2p.free, I2p.freeC, fun p hp => I2p.pin p ((List.mem_append.mp hp).elim (List.mem_append_left _) fun q => List.mem_append_right _ (List.mem_cons_of_mem _ q)), I2p.hok, I2p.len⟩
  have hfA : s2.heap.get? f = some (PySem.W.kla_obj "<lambda>" (X.env.qual ++ "<lambda>") params body scope (cloFrom X.env.cells scope.names []) pm' c' ctv) := (I2p.pin _ (List.mem_append_right _ List.mem_cons_self)).1
  subst ew
  subst eH
  refine ⟨I2.kIn, ?_⟩
  have ln : (Value.ref f :: us).length = (a :: as).length := by
    have l1 : ∀ {is : List Nat} {vs : List V}, At σ is vs → vs.length = is.length := fun {is} => by
      induction is with
      | nil => intro vs e; rw [show vs = [] from e]; rfl
      | cons i is ih =>
        intro vs e
        obtain ⟨v, ws, e1, _, r⟩ := e
        rw [e1, List.length_cons, ih r, List.length_cons]
    have l2 := rv.length
    rw [l1 hat] at l2
    simp only [List.length_cons]
    omega
  have binds := hb s2 (.ref f :: us) I2.kIn (by simpa using ln)
  rw [List.append_nil] at binds
  refine wpAny_call (codeAny_mono (LamX.run_ofS (CX := L2.CX X.prog X.w) (E := EFalse) (N := Ng) (ps := a :: as) (us := .ref f :: us) (vs := .ref f :: ws) (Q := Q) (H := H2) lk hcg Sg hr I2.env0 binds (.cons rfl rv) (by have := rv.length; simpa [this] using ln) fun hr' => ?_) fun r s3 hq => ?_)
  · refine hG f c' s2 H2 Q ws (fun E H' Q' => t E σ H' Q') hr' (fun W pn xe p1 p2 tk => ?_) hco (h H2 c' made T1)
    exact lam_act (HZ0 := H2) (i := 0) I2 L hfA hfn hfr (hbind _ _ _ _ _) tk hr' (fun A outer s H E hr2 => hbody A outer s H E f c' hr2) hNg hva hd hcd
  · cases r with
    | error e =>
      obtain ⟨_, _, _, _, _, _, _, _, _, _, _, _, z⟩ := hq
      exact z.elim
    | ok fl =>
      cases fl with
      | ret u => exact I2.after hq
      | next => exact hq.elim
      | brk => exact hq.elim
      | cont => exact hq.elim
end
end Z

set_option Elab.async false
set_option linter.all false
set_option maxRecDepth 100000
set_option maxHeartbeats 4000000
/-! Z37: such a call on trees: the lambda's body is reckoned on the maker's slots, the def that got it tells what comes of that. -/
namespace Z
open PySem PySem.Spec PyProof.Rows L2
variable {G : Cfg} {B : Bs} {H H1 : Hp} {g : List It}
theorem W.made {P c' : Addr} {q : Str} (w : W G B H g) (m : Made H H1 P c' q) (t : LamX.Tabs G.T H1) : W G B H1 g := by
  obtain ⟨F, O, wf, h⟩ := w
  rcases m with rfl | ⟨ps, ps', hP, hc, e⟩
  · exact ⟨F, O, wf, h⟩
  have ext : LamX.ExtN H H1 := Made.ext (.inr ⟨ps, ps', hP, hc, e⟩)
  have st : Stay [] H H1 := ⟨fun b o e _ nt => ext b o e nt, fun b hb => nomatch hb⟩
  refine ⟨F, O, ⟨wf.nd, wf.dj, fun b hf => ?_, wf.own, wf.fz, fun b o hb hi nt => ext b o (wf.keep b o hb hi nt) nt, fun b qs hb hi => ?_, t⟩, h.stay st (fun _ _ z => nomatch z) (fun _ _ z => nomatch z)⟩
  · intro z
    rw [e] at z
    by_cases h1 : b = c'
    · rw [h1, upd_same] at z; cases z
    · rw [upd_ne h1] at z
      by_cases h2 : b = P
      · rw [h2, upd_same] at z; cases z
      · rw [upd_ne h2] at z; exact wf.fd b hf z
  · obtain ⟨qs', hq⟩ := wf.tbs b qs hb hi
    rw [e]
    by_cases h1 : b = c'
    · rw [h1, hc] at hq; cases hq
    · rw [upd_ne h1]
      by_cases h2 : b = P
      · exact ⟨ps', by rw [h2, upd_same]⟩
      · exact ⟨qs', by rw [upd_ne h2]; exact hq⟩
/-- what the lambda's body does, said of the reading tl at H: what is kept for the def that got it, and what the maker has -/
def ResIs (A : Prop) (G : Cfg) (B : Bs) (tl : XK → Hp → VK → Prop) (g' : List It) (H : Hp) : FR → Prop
  | .ok d _ => ∀ E Q', (∀ v H2, A → W G B H2 ((v, d) :: g') → Q' v H2) → tl E H Q'
  | .exc C ns es _ => ∀ E Q', (∀ (ws : List V) (dx : Option Addr) H2, A → ws.length = es.length → W G B H2 (ws.zip es ++ g') → XdAt H2 dx ns ws → E (.ref (G.cls C)) dx H2) → tl E H Q'
/-- the heap, a tuple laid into it or not -/
def Grown (H H' : Hp) : Prop := H' = H ∨ ∃ p xs, H p = none ∧ H' = upd H p (.tup xs)
theorem Grown.w {H' : Hp} (gr : Grown H H') (w : W G B H g) : W G B H' g := by
  rcases gr with rfl | ⟨p, xs, n, rfl⟩
  · exact w
  · exact w.laid n
def TTz (G : Cfg) (told : List D → FR → Option D) : (XK → Hp → VK → Prop) → List V → Hp → VK → Prop := fun tl vs H Q =>
  ∃ (A : Prop) (B : Bs) (g' : List It) (ds : List D) (res : FR) (d2 : D), vs.length = ds.length ∧ (∀ H', Grown H H' → ResIs A G B tl (vs.zip ds ++ g') H' res) ∧ told ds res = some d2 ∧ ∀ v H2, A → W G B H2 ((v, d2) :: g') → Q v H2
/-- what stands in slots, none of it owned -/
def slotsD (r : Rho) : List Nat → Option (List D)
  | [] => some []
  | i :: is => match r[i]?, slotsD r is with
    | some (some d), some ds => if noOwn d = true then some (d :: ds) else none
    | _, _ => none
def lamM (told : List D → FR → Option D) (is : List Nat) (body : M D) : M D := fun r => match slotsD r is with
  | some ds => (match body r with
    | some (.ok d r1) => (told ds (.ok d [])).map fun d2 => .ok d2 r1
    | some (.exc C ns es r1) => (told ds (.exc C ns es [])).map fun d2 => .ok d2 r1
    | none => none)
  | none => none
theorem slots_at {σ : L2.St} {r : Rho} (a : Al σ r) : ∀ {is : List Nat} {ds : List D}, slotsD r is = some ds → ∃ vs, At σ is vs ∧ vs.length = ds.length ∧ ∀ p ∈ vs.zip ds, p ∈ envI σ r ∧ noOwn p.2 = true
  | [], ds, h => by
    cases h
    exact ⟨[], rfl, rfl, fun p m => by simp at m⟩
  | i :: is, ds, h => by
    unfold slotsD at h
    split at h
    · rename_i d ds' h1 h2
      split at h
      · rename_i n
        cases h
        obtain ⟨vs, q1, q2, q3⟩ := slots_at a h2
        obtain ⟨v, hv⟩ := a.has i d h1
        refine ⟨v :: vs, ⟨v, vs, rfl, hv, q1⟩, by simp [q2], fun p m => ?_⟩
        rcases List.mem_cons.mp m with q | q
        · rw [q]; exact ⟨List.mem_of_getElem? (envI_get hv h1), n⟩
        · exact q3 p q
      · cases h
    · cases h
theorem W.copies {vs : List V} {ds : List D} (w : W G B H g) (m : ∀ p ∈ vs.zip ds, p ∈ g ∧ noOwn p.2 = true) (hl : vs.length = ds.length) : W G B H (vs.zip ds ++ g) :=
  W.adds hl (fun i x d h1 h2 => by
    obtain ⟨q1, q2⟩ := m (x, d) (List.mem_of_getElem? (i := i) (by rw [List.getElem?_zip_eq_some]; exact ⟨h1, h2⟩))
    exact Cp.of q1 q2) w
section
variable {c : Ctx} {σ : L2.St} {H : Hp} {X : Cx} {Q : VK}
theorem red_lam {T : List (Addr × Str)} {told : List D → FR → Option D} {is : List Nat} {mb : M D} {P : Addr} {q : Str} (hT : T = c.G.T) (h : tm c (lamM told is mb) σ H Q) : tLam2 T P q is (TTz c.G told) (fun E => tm ⟨c.G, c.B, c.ios, fun _ => E⟩ mb) σ H Q := by
  subst hT
  obtain ⟨r, e, x, n, hx, fin⟩ := h
  unfold lamM at hx
  split at hx
  · rename_i ds hs
    obtain ⟨vs, q1, q2, q3⟩ := slots_at n.al.al hs
    refine ⟨n.w.elim fun F ⟨O, wf, _⟩ => wf.tb, vs, q1, fun H1 c' made t1 => ?_⟩
    have w0 : W c.G c.B H (e ++ envI σ r) := n.w
    have w1 := w0.made made t1
    have w2 : W c.G c.B H1 ((vs.zip ds ++ e) ++ envI σ r) := by
      rw [List.append_assoc]
      exact w1.copies (fun p hp => ⟨List.mem_append_right _ (q3 p hp).1, (q3 p hp).2⟩) q2
    split at hx
    · rename_i d r1 hb
      simp only [Option.map_eq_some_iff] at hx
      obtain ⟨d2, ht, ex⟩ := hx
      subst ex
      refine ⟨Alx c σ r1, c.B, e ++ envI σ r1, ds, .ok d [], d2, q2, fun H' gr E Q' go => ?_, ht, fun v H2 a w => fin v H2 a w⟩
      refine ⟨r, vs.zip ds ++ e, _, ⟨⟨n.al.al, n.al.io⟩, Vok.nil, gr.w w2⟩, hb, fun v H2 a w => go v H2 ⟨a.al, a.io⟩ ?_⟩
      rw [← List.append_assoc]
      exact w
    · rename_i C ns es r1 hb
      simp only [Option.map_eq_some_iff] at hx
      obtain ⟨d2, ht, ex⟩ := hx
      subst ex
      refine ⟨Alx c σ r1, c.B, e ++ envI σ r1, ds, .exc C ns es [], d2, q2, fun H' gr E Q' go => ?_, ht, fun v H2 a w => fin v H2 a w⟩
      refine ⟨r, vs.zip ds ++ e, _, ⟨⟨n.al.al, n.al.io⟩, Vok.nil, gr.w w2⟩, hb, fun ws dx H2 a hl w xd => go ws dx H2 ⟨a.al, a.io⟩ hl ?_ xd⟩
      rw [← List.append_assoc (vs.zip ds)]
      exact w
    · cases hx
  · cases hx
end
end Z

set_option Elab.async false
set_option linter.all false
set_option maxRecDepth 100000
set_option maxHeartbeats 4000000
/-! Z38: the defs that call what they got under try: what they make of it. -/
namespace Z
open PySem PySem.Spec PyProof.Rows L2
def restM (mr : MS) (r : Rho) : Option D := match mr r with
  | some (.rt d _) => some d
  | some (.nx _) => some .non
  | _ => none
theorem rest_run {mr : MS} {G : Cfg} {B : Bs} {g : List It} {σ : L2.St} {r : Rho} {H2 : Hp} {Q : VK} {d2 : D} (a : Al σ r) (w : W G B H2 (g ++ envI σ r)) (h : restM mr r = some d2) (fin : ∀ v H', W G B H' ((v, d2) :: g) → Q v H') :
    tS ⟨G, B, [], fun _ => EFalse⟩ mr { nx := fun _ H' => Q .non H', rt := Q } σ H2 := by
  unfold restM at h
  split at h
  · rename_i d r1 hm
    cases h
    exact ⟨r, g, _, ⟨⟨a, fun p hp => nomatch hp⟩, Vok.nil, w⟩, hm, fun v σ' H' a' w' => fin v H' (W.drops (l := envI σ' r1) (w'.perm (by
      rw [← List.cons_append]
      exact List.perm_append_comm)))⟩
  · rename_i r1 hm
    cases h
    refine ⟨r, g, _, ⟨⟨a, fun p hp => nomatch hp⟩, Vok.nil, w⟩, hm, fun σ' H' a' w' => fin .non H' ?_⟩
    have w2 : W G B H' (envI σ' r1 ++ g) := w'.perm List.perm_append_comm
    exact W.add (W.drops w2) (Cp.triv fun F => by simp [Tr])
  · cases h
/-- found, caught = None, None / try: found = ask() / except .. as error: caught = error / rest -/
def toldA (mr : MS) (Kn Cs : List Str) : List D → FR → Option D := fun ds res => match ds, res with
  | [], .ok d _ => restM mr [none, some d, some .non, none]
  | [], .exc C ns es _ => if C ∈ Kn ∧ C ∈ Cs ∧ ns.length = es.length then restM mr [none, some .non, some (.xcp C ns es), none] else none
  | _, _ => none
/-- found, caught = None, None / try: found = [ask()] / except .. as error: caught = error / rest -/
def toldL (mr : MS) (Kn Cs : List Str) : List D → FR → Option D := fun ds res => match ds, res with
  | [], .ok d _ => restM mr [none, some (.lst true [d]), some .non, none]
  | [], .exc C ns es _ => if C ∈ Kn ∧ C ∈ Cs ∧ ns.length = es.length then restM mr [none, some .non, some (.xcp C ns es), none] else none
  | _, _ => none
/-- caught = None / try: ask() / except .. as error: caught = error / rest -/
def toldB (mr : MS) (Kn Cs : List Str) : List D → FR → Option D := fun ds res => match ds, res with
  | [st], .ok d _ => restM mr [none, some st, some .non, none]
  | [st], .exc C ns es _ => if C ∈ Kn ∧ C ∈ Cs ∧ ns.length = es.length then restM mr [none, some st, some (.xcp C ns es), none] else none
  | _, _ => none
theorem W.tri {G : Cfg} {B : Bs} {H : Hp} {g : List It} (w : W G B H g) : W G B H ((V.non, D.non) :: g) := w.add (Cp.triv fun F => by simp [Tr])
section
variable {X : Cx} {G : Cfg} {k : Nat} {x a fo ca er q : Str} {sg : Scope} {g : Addr} {cdg : Value} {rest : List Stmt} {te : Expr} {mr : MS} {Kn Cs : List Str} {kt k2 j4 j5 : Nat} {p1 p2 p3 p4 p5 p6 p7 p8 p9 p10 p11 p12 p13 p14 p15 p16 : Pos}
theorem gives_A (hnd : ([a, fo, ca, er] : List Str).Nodup) (hfo : sg.names.lookup fo = some .local) (hca : sg.names.lookup ca = some .local) (her : sg.names.lookup er = some .local)
    (hd1 : (er == ("__debug__" : Str)) = false) (hd2 : (er == ("__classdict__" : Str)) = false)
    (hrest : ∀ (B : Bs) (s : Shared) (H : Hp), Room k (X.A.deeper (envOfC x sg s.heap.objs.size g cdg)) → PSs (cxOf (L2.CX X.prog X.w) X.prog X.w X.K X.mg X.base [a, fo, ca, er] x sg g cdg X.A X.stack s H EFalse) rest (tS ⟨G, B, [], fun _ => EFalse⟩ mr))
    (ht : ∀ (s : Shared) (H : Hp), ∀ C ∈ Kn, CaTest (cxOf (L2.CX X.prog X.w) X.prog X.w X.K X.mg X.base [a, fo, ca, er] x sg g cdg X.A X.stack s H EFalse) te (.ref (G.cls C)) (decide (C ∈ Cs)))
    (sw1 : ∀ (s : Shared), swappedStores [.Tuple [.Name fo p1, .Name ca p2] kt p3] (.Tuple [.Constant .none j4 p4, .Constant .none j5 p5] k2 p6) (envOfC x sg s.heap.objs.size g cdg) = pure none)
    (sw2 : ∀ (s : Shared), swapsWithSole [.Tuple [.Name fo p1, .Name ca p2] kt p3] (.Tuple [.Constant .none j4 p4, .Constant .none j5 p5] k2 p6) p7.line (envOfC x sg s.heap.objs.size g cdg) = pure false)
    (sw3 : ∀ (s : Shared), swapsWithSole [.Name fo p8] (.Call (.Name a p9) [] [] p10) p11.line (envOfC x sg s.heap.objs.size g cdg) = pure false)
    (sw4 : ∀ (s : Shared), swapsWith (.Name er p13) none p14.line (envOfC x sg s.heap.objs.size g cdg) = pure false) :
    Gives X k [a, fo, ca, er] x sg g cdg (.Assign [.Tuple [.Name fo p1, .Name ca p2] kt p3] (.Tuple [.Constant .none j4 p4, .Constant .none j5 p5] k2 p6) p7 ::
      .Try [.Assign [.Name fo p8] (.Call (.Name a p9) [] [] p10) p11] [.ExceptHandler (some te) (some er) [.Assign [.Name ca p12] (.Name er p13) p14] p15] [] [] p16 :: rest) a q (TTz G (toldA mr Kn Cs)) := by
  intro f c' s H Q vs tl hrm hact hco want
  obtain ⟨A, B, g', ds, res, d2, hl, hres, htold, fin⟩ := want
  have hN0 : ([a, fo, ca, er] : List Str)[0]? = some a := rfl
  refine ⟨_, pss_cons (ps_asg (pe_tup (pa_cons pe_non (pa_cons pe_non pa_nil))) (pg_tup rfl (pgs_cons (pg_name (i := 1) hnd rfl (.inl hfo) (.inr hfo)) (pgs_cons (pg_name (i := 2) hnd rfl (.inl hca) (.inr hca)) pgs_nil))) (sw2 s) (sw1 s))
    (pss_cons (ps_try_keep (i := 3) (j := 2) rfl rfl rfl hnd rfl her rfl hca (takes_of rfl rfl rfl rfl) hd1 hd2 (fun W pn xe tk _ => pss_one (ps_asg (hact W pn xe p9 p10 tk) (pg_name (i := 1) hnd rfl (.inl hfo) (.inr hfo)) (sw3 s))) (sw4 s)) (hrest B s H hrm)), ?_⟩
  cases ds with
  | cons _ _ => unfold toldA at htold; cases res <;> cases htold
  | nil =>
  cases vs with
  | cons _ _ => cases hl
  | nil =>
  have w0 : ∀ {H2 : Hp} {v : V} {d : D}, W G B H2 ((v, d) :: g') → W G B H2 (g' ++ envI [some (.ref f), some v, some .non, none] [none, some d, some .non, none]) := fun w =>
    (w.tri.tri.tri).perm (by
      show List.Perm _ (g' ++ [_, _, _, _])
      refine List.Perm.trans ?_ List.perm_append_comm
      exact (((List.Perm.swap _ _ _).cons _).cons _).trans ((((List.Perm.swap _ _ _).cons _).trans (List.Perm.refl _))))
  refine ⟨by simp [sizeLine_eq], fun p0 np => ⟨p0, [.non, .non], rfl, SqT.of upd_same, rfl, .non, [.non], rfl, .non, [], rfl, rfl, ?_⟩⟩
  have gr : Grown H (upd H p0 (.tup [.non, .non])) := .inr ⟨p0, _, np, rfl⟩
  refine ⟨rfl, (upd_ne (ne_of_none hco np)).trans hco, ?_⟩
  cases res with
  | ok d io =>
    refine hres _ gr _ _ fun v H2 hA w => ?_
    exact rest_run (g := g') (r := [none, some d, some .non, none]) ⟨rfl, by
      intro i d' hi
      match i, hi with
      | 0, h => cases h
      | 1, _ => exact ⟨_, rfl⟩
      | 2, _ => exact ⟨_, rfl⟩
      | 3, h => cases h
      | _ + 4, h => cases h⟩ (w0 w) htold fun v' H' w' => fin v' H' hA w'
  | exc C ns es io =>
    unfold toldA at htold
    dsimp only at htold
    split at htold
    · rename_i hq
      obtain ⟨hk, hc, hlen⟩ := hq
      refine hres _ gr _ _ fun ws dx H2 hA hl2 w xd => ?_
      refine ⟨_, ht s H C hk, fun _ => ⟨G.cls C, rfl, fun a0 na => ?_⟩, fun z => by simp [hc] at z⟩
      have w1 : W G B (upd H2 a0 (Xo (G.cls C) dx a0)) ((.ref a0, .xcp C ns es) :: g') := w.xcp (C := C) hl2 hlen na xd
      refine rest_run (g := g') (r := [none, some .non, some (.xcp C ns es), none]) ⟨rfl, by
        intro i d' hi
        match i, hi with
        | 0, h => cases h
        | 1, _ => exact ⟨_, rfl⟩
        | 2, _ => exact ⟨_, rfl⟩
        | 3, h => cases h
        | _ + 4, h => cases h⟩ ?_ htold fun v' H' w' => fin v' H' hA w'
      refine (w1.tri.tri.tri).perm ?_
      show List.Perm _ (g' ++ [_, _, _, _])
      refine List.Perm.trans ?_ List.perm_append_comm
      exact ((List.Perm.swap _ _ _).cons _).cons _
    · cases htold
theorem gives_L {p17 : Pos} (hnd : ([a, fo, ca, er] : List Str).Nodup) (hfo : sg.names.lookup fo = some .local) (hca : sg.names.lookup ca = some .local) (her : sg.names.lookup er = some .local)
    (hd1 : (er == ("__debug__" : Str)) = false) (hd2 : (er == ("__classdict__" : Str)) = false)
    (hrest : ∀ (B : Bs) (s : Shared) (H : Hp), Room k (X.A.deeper (envOfC x sg s.heap.objs.size g cdg)) → PSs (cxOf (L2.CX X.prog X.w) X.prog X.w X.K X.mg X.base [a, fo, ca, er] x sg g cdg X.A X.stack s H EFalse) rest (tS ⟨G, B, [], fun _ => EFalse⟩ mr))
    (ht : ∀ (s : Shared) (H : Hp), ∀ C ∈ Kn, CaTest (cxOf (L2.CX X.prog X.w) X.prog X.w X.K X.mg X.base [a, fo, ca, er] x sg g cdg X.A X.stack s H EFalse) te (.ref (G.cls C)) (decide (C ∈ Cs)))
    (sw1 : ∀ (s : Shared), swappedStores [.Tuple [.Name fo p1, .Name ca p2] kt p3] (.Tuple [.Constant .none j4 p4, .Constant .none j5 p5] k2 p6) (envOfC x sg s.heap.objs.size g cdg) = pure none)
    (sw2 : ∀ (s : Shared), swapsWithSole [.Tuple [.Name fo p1, .Name ca p2] kt p3] (.Tuple [.Constant .none j4 p4, .Constant .none j5 p5] k2 p6) p7.line (envOfC x sg s.heap.objs.size g cdg) = pure false)
    (sw3 : ∀ (s : Shared), swapsWithSole [.Name fo p8] (.List [.Call (.Name a p9) [] [] p10] p17) p11.line (envOfC x sg s.heap.objs.size g cdg) = pure false)
    (sw4 : ∀ (s : Shared), swapsWith (.Name er p13) none p14.line (envOfC x sg s.heap.objs.size g cdg) = pure false) :
    Gives X k [a, fo, ca, er] x sg g cdg (.Assign [.Tuple [.Name fo p1, .Name ca p2] kt p3] (.Tuple [.Constant .none j4 p4, .Constant .none j5 p5] k2 p6) p7 ::
      .Try [.Assign [.Name fo p8] (.List [.Call (.Name a p9) [] [] p10] p17) p11] [.ExceptHandler (some te) (some er) [.Assign [.Name ca p12] (.Name er p13) p14] p15] [] [] p16 :: rest) a q (TTz G (toldL mr Kn Cs)) := by
  intro f c' s H Q vs tl hrm hact hco want
  obtain ⟨A, B, g', ds, res, d2, hl, hres, htold, fin⟩ := want
  have hN0 : ([a, fo, ca, er] : List Str)[0]? = some a := rfl
  refine ⟨_, pss_cons (ps_asg (pe_tup (pa_cons pe_non (pa_cons pe_non pa_nil))) (pg_tup rfl (pgs_cons (pg_name (i := 1) hnd rfl (.inl hfo) (.inr hfo)) (pgs_cons (pg_name (i := 2) hnd rfl (.inl hca) (.inr hca)) pgs_nil))) (sw2 s) (sw1 s))
    (pss_cons (ps_try_keep (i := 3) (j := 2) rfl rfl rfl hnd rfl her rfl hca (takes_of rfl rfl rfl rfl) hd1 hd2 (fun W pn xe tk _ => pss_one (ps_asg (pe_lst (pa_cons (hact W pn xe p9 p10 tk) pa_nil)) (pg_name (i := 1) hnd rfl (.inl hfo) (.inr hfo)) (sw3 s))) (sw4 s)) (hrest B s H hrm)), ?_⟩
  cases ds with
  | cons _ _ => unfold toldL at htold; cases res <;> cases htold
  | nil =>
  cases vs with
  | cons _ _ => cases hl
  | nil =>
  have w0 : ∀ {H2 : Hp} {v : V} {d : D}, W G B H2 ((v, d) :: g') → W G B H2 (g' ++ envI [some (.ref f), some v, some .non, none] [none, some d, some .non, none]) := fun w =>
    (w.tri.tri.tri).perm (by
      show List.Perm _ (g' ++ [_, _, _, _])
      refine List.Perm.trans ?_ List.perm_append_comm
      exact (((List.Perm.swap _ _ _).cons _).cons _).trans ((((List.Perm.swap _ _ _).cons _).trans (List.Perm.refl _))))
  refine ⟨by simp [sizeLine_eq], fun p0 np => ⟨p0, [.non, .non], rfl, SqT.of upd_same, rfl, .non, [.non], rfl, .non, [], rfl, rfl, ?_⟩⟩
  have gr : Grown H (upd H p0 (.tup [.non, .non])) := .inr ⟨p0, _, np, rfl⟩
  refine ⟨rfl, (upd_ne (ne_of_none hco np)).trans hco, ?_⟩
  cases res with
  | ok d io =>
    refine hres _ gr _ _ fun v H2 hA w => ?_
    refine ⟨by simp [sizeLine_eq], fun pl nl => ?_⟩
    have wl : W G B (upd H2 pl (.lst [v])) ((.ref pl, .lst true [d]) :: g') := Wo.closeL (W.new (show W G B H2 ([v].zip [d] ++ g') from w) nl) rfl
    exact rest_run (g := g') (r := [none, some (.lst true [d]), some .non, none]) ⟨rfl, by
      intro i d' hi
      match i, hi with
      | 0, h => cases h
      | 1, _ => exact ⟨_, rfl⟩
      | 2, _ => exact ⟨_, rfl⟩
      | 3, h => cases h
      | _ + 4, h => cases h⟩ (w0 wl) htold fun v' H' w' => fin v' H' hA w'
  | exc C ns es io =>
    unfold toldL at htold
    dsimp only at htold
    split at htold
    · rename_i hq
      obtain ⟨hk, hc, hlen⟩ := hq
      refine hres _ gr _ _ fun ws dx H2 hA hl2 w xd => ?_
      refine ⟨_, ht s H C hk, fun _ => ⟨G.cls C, rfl, fun a0 na => ?_⟩, fun z => by simp [hc] at z⟩
      have w1 : W G B (upd H2 a0 (Xo (G.cls C) dx a0)) ((.ref a0, .xcp C ns es) :: g') := w.xcp (C := C) hl2 hlen na xd
      refine rest_run (g := g') (r := [none, some .non, some (.xcp C ns es), none]) ⟨rfl, by
        intro i d' hi
        match i, hi with
        | 0, h => cases h
        | 1, _ => exact ⟨_, rfl⟩
        | 2, _ => exact ⟨_, rfl⟩
        | 3, h => cases h
        | _ + 4, h => cases h⟩ ?_ htold fun v' H' w' => fin v' H' hA w'
      refine (w1.tri.tri.tri).perm ?_
      show List.Perm _ (g' ++ [_, _, _, _])
      refine List.Perm.trans ?_ List.perm_append_comm
      exact ((List.Perm.swap _ _ _).cons _).cons _
    · cases htold
theorem gives_B {st : Str} (hnd : ([a, st, ca, er] : List Str).Nodup) (hca : sg.names.lookup ca = some .local) (her : sg.names.lookup er = some .local)
    (hd1 : (er == ("__debug__" : Str)) = false) (hd2 : (er == ("__classdict__" : Str)) = false)
    (hrest : ∀ (B : Bs) (s : Shared) (H : Hp), Room k (X.A.deeper (envOfC x sg s.heap.objs.size g cdg)) → PSs (cxOf (L2.CX X.prog X.w) X.prog X.w X.K X.mg X.base [a, st, ca, er] x sg g cdg X.A X.stack s H EFalse) rest (tS ⟨G, B, [], fun _ => EFalse⟩ mr))
    (ht : ∀ (s : Shared) (H : Hp), ∀ C ∈ Kn, CaTest (cxOf (L2.CX X.prog X.w) X.prog X.w X.K X.mg X.base [a, st, ca, er] x sg g cdg X.A X.stack s H EFalse) te (.ref (G.cls C)) (decide (C ∈ Cs)))
    (sw1 : ∀ (s : Shared), swapsWithSole [.Name ca p1] (.Constant .none j4 p4) p7.line (envOfC x sg s.heap.objs.size g cdg) = pure false)
    (sw3 : ∀ (s : Shared), swapsWith (.Call (.Name a p9) [] [] p10) none p11.line (envOfC x sg s.heap.objs.size g cdg) = pure false)
    (sw4 : ∀ (s : Shared), swapsWith (.Name er p13) none p14.line (envOfC x sg s.heap.objs.size g cdg) = pure false) :
    Gives X k [a, st, ca, er] x sg g cdg (.Assign [.Name ca p1] (.Constant .none j4 p4) p7 ::
      .Try [.Expr (.Call (.Name a p9) [] [] p10) p11] [.ExceptHandler (some te) (some er) [.Assign [.Name ca p12] (.Name er p13) p14] p15] [] [] p16 :: rest) a q (TTz G (toldB mr Kn Cs)) := by
  intro f c' s H Q vs tl hrm hact hco want
  obtain ⟨A, B, g', ds, res, d2, hl, hres, htold, fin⟩ := want
  refine ⟨_, pss_cons (ps_asg pe_non (pg_name (i := 2) hnd rfl (.inl hca) (.inr hca)) (sw1 s))
    (pss_cons (ps_try_keep (i := 3) (j := 2) rfl rfl rfl hnd rfl her rfl hca (takes_of rfl rfl rfl rfl) hd1 hd2 (fun W pn xe tk _ => pss_one (ps_expr (hact W pn xe p9 p10 tk) (sw3 s))) (sw4 s)) (hrest B s H hrm)), ?_⟩
  match ds, vs, hl, htold, hres with
  | [], _, _, htold, _ => unfold toldB at htold; cases res <;> cases htold
  | _ :: _ :: _, _, _, htold, _ => unfold toldB at htold; cases res <;> cases htold
  | [_], [], hl, _, _ => cases hl
  | [_], _ :: _ :: _, hl, _, _ => cases hl
  | [dst], [vst], _, htold, hres =>
  refine ⟨rfl, hco, ?_⟩
  cases res with
  | ok d io =>
    refine hres _ (.inl rfl) _ _ fun v H2 hA w => ?_
    refine rest_run (g := g') (r := [none, some dst, some .non, none]) ⟨rfl, by
      intro i d' hi
      match i, hi with
      | 0, h => cases h
      | 1, _ => exact ⟨_, rfl⟩
      | 2, _ => exact ⟨_, rfl⟩
      | 3, h => cases h
      | _ + 4, h => cases h⟩ ?_ htold fun v' H' w' => fin v' H' hA w'
    have w1 : W G B H2 ((vst, dst) :: g') := w.drop
    refine (w1.tri.tri.tri).perm ?_
    show List.Perm _ (g' ++ [_, _, _, _])
    refine List.Perm.trans ?_ List.perm_append_comm
    exact (((List.reverse_perm [((V.non, D.non) : It), (V.non, D.non), (vst, dst)]).symm.append_right g').cons _)
  | exc C ns es io =>
    unfold toldB at htold
    dsimp only at htold
    split at htold
    · rename_i hq
      obtain ⟨hk, hc, hlen⟩ := hq
      refine hres _ (.inl rfl) _ _ fun ws dx H2 hA hl2 w xd => ?_
      refine ⟨_, ht s H C hk, fun _ => ⟨G.cls C, rfl, fun a0 na => ?_⟩, fun z => by simp [hc] at z⟩
      have w1 : W G B (upd H2 a0 (Xo (G.cls C) dx a0)) ((.ref a0, .xcp C ns es) :: ((vst, dst) :: g')) := w.xcp (C := C) hl2 hlen na xd
      refine rest_run (g := g') (r := [none, some dst, some (.xcp C ns es), none]) ⟨rfl, by
        intro i d' hi
        match i, hi with
        | 0, h => cases h
        | 1, _ => exact ⟨_, rfl⟩
        | 2, _ => exact ⟨_, rfl⟩
        | 3, h => cases h
        | _ + 4, h => cases h⟩ ?_ htold fun v' H' w' => fin v' H' hA w'
      refine (w1.tri.tri).perm ?_
      show List.Perm _ (g' ++ [_, _, _, _])
      refine List.Perm.trans ?_ List.perm_append_comm
      exact (((List.reverse_perm [((V.non, D.non) : It), (V.ref a0, D.xcp C ns es), (vst, dst)]).symm.append_right g').cons _)
    · cases htold
end
end Z

set_option Elab.async false
set_option linter.all false
set_option maxRecDepth 100000
/-! Z39: defs that make lambdas; x(lambda: body, names ..) in one rule. -/
namespace Z
open PySem PySem.Spec PyProof.Rows L2
/-- the code object of a def that makes lambdas, and its table -/
structure TabZ (G : Cfg) (mg : Str → Option Value) (base : Heap) (qual : Str) (cdv : Value) (P0 : Addr) : Prop where
  ex : ∃ cd, cdv = .ref cd ∧ LamX.TabB base mg cd P0
  mem : (P0, qual ++ "<lambda>") ∈ G.T
  un : ∀ p ∈ G.T, p.1 = P0 → p.2 = qual ++ "<lambda>"
/-- a def of the module that makes lambdas -/
structure DefL (G : Cfg) (mg : Str → Option Value) (base : Heap) (x : Str) (st : Stmt) (ps : List Str) : Prop where
  hps : ps = (defArgs st).args.map (·.arg)
  ex : ∃ (f : Addr) (fd : FuncData) (oc : Value) (od : Option Addr) (kV doc pm : Value) (an : Option Addr) (cdv ct : Value) (osl : Array (Option Value)) (P0 : Addr),
    fd = PySem.W.fnOf x x (defArgs st) (defBody st) (defScope st) .none kV doc pm an cdv ct ∧ G.K.lookup f = some ⟨oc, od, .func fd, osl⟩ ∧ PySem.W.codeIn G.K cdv x = true ∧ PySem.W.keepIn G.K (.ref f) = true ∧
    mg x = some (.ref f) ∧ Binds G.K fd ps [] ∧ TabZ G mg base (x ++ ".<locals>.") cdv P0
section
variable {P : Program} {w : World} {G : Cfg} {mg : Str → Option Value} {base : Heap} {x : Str} {st : Stmt} {Ns ps : List Str} {k nio : Nat} {m : MS} {φ : List D → Option FR}
/-- its promise -/
theorem calL (Df : DefL G mg base x st ps) (S : FnScope Ns ps (defScope st)) (hn : nio ≤ ps.length)
    (hb : ∀ (B : Bs) (ios : List (Nat × V)) (f : Addr) (cdv : Value) (P0 : Addr) (A : Around) (outer : List Env) (s : Shared) (H : Hp) (E : XK), TabZ G mg base (x ++ ".<locals>.") cdv P0 → (∀ p ∈ ios, p.1 < nio) → Room k (A.deeper (envOfC x (defScope st) s.heap.objs.size f cdv)) →
      TkP (cxOf (L2.CX P w) P w G.K mg base Ns x (defScope st) f cdv A outer s H E) E → PSs (cxOf (L2.CX P w) P w G.K mg base Ns x (defScope st) f cdv A outer s H E) (defBody st) (tS ⟨G, B, ios, fun _ => E⟩ m)) (hphi : φ = run Ns.length ps.length nio m) :
    CalZ P w G mg base (k + 1) x nio φ := by
  subst hphi
  obtain ⟨f, fd, oc, od, kV, doc, pm, an, cdv, ct, osl, P0, rfl, lk, hcd, hk, hm, b, tz⟩ := Df.ex
  have hpl : ps.length ≤ Ns.length := by have := congrArg List.length S.pre; rw [List.length_take] at this; omega
  refine ⟨f, _, ps, ?_, b, hm, hk, st, ⟨⟨oc, od, kV, doc, pm, an, cdv, ct, osl, rfl, lk, hcd⟩, hk⟩, Df.hps⟩
  exact fn_of lk hcd S (fun vs H Q E h => spZ_len h) fun A outer s H vs Q E hr h => bodyZ nio hn hpl h fun B ios hio => hb B ios f cdv P0 A outer s H E tz hio hr ⟨takes_of rfl rfl rfl rfl, passes_of rfl⟩
/-- its promise, while no guard stands -/
theorem calLG (Df : DefL G mg base x st ps) (S : FnScope Ns ps (defScope st)) (hn : nio ≤ ps.length)
    (hb : ∀ (B : Bs) (ios : List (Nat × V)) (f : Addr) (cdv : Value) (P0 : Addr) (A : Around) (outer : List Env) (s : Shared) (H : Hp) (E : XK), TabZ G mg base (x ++ ".<locals>.") cdv P0 → A.guards = some [] → (∀ p ∈ ios, p.1 < nio) → Room k (A.deeper (envOfC x (defScope st) s.heap.objs.size f cdv)) →
      TkP (cxOf (L2.CX P w) P w G.K mg base Ns x (defScope st) f cdv A outer s H E) E → PSs (cxOf (L2.CX P w) P w G.K mg base Ns x (defScope st) f cdv A outer s H E) (defBody st) (tS ⟨G, B, ios, fun _ => E⟩ m)) (hphi : φ = run Ns.length ps.length nio m) :
    CalG P w G mg base (k + 1) x nio φ := by
  subst hphi
  obtain ⟨f, fd, oc, od, kV, doc, pm, an, cdv, ct, osl, P0, rfl, lk, hcd, hk, hm, b, tz⟩ := Df.ex
  have hpl : ps.length ≤ Ns.length := by have := congrArg List.length S.pre; rw [List.length_take] at this; omega
  refine ⟨f, _, ps, ?_, b, hm, hk⟩
  exact fnG_byR rfl lk hcd S (fun vs H Q E h => spZ_len h) fun A outer s H vs Q E g hr h => bodyZ nio hn hpl h fun B ios hio => hb B ios f cdv P0 A outer s H E tz g hio hr ⟨takes_of rfl rfl rfl rfl, passes_of rfl⟩
end
section
variable {X : Cx} {c : Ctx}
theorem z_lam {x a : Str} {as Ng : List Str} {st : Stmt} {is : List Nat} {told : List D → FR → Option D} {mb : M D} {params : Arguments} {body : Expr} {scope : Scope} {es : List Expr} {p lpos pos : Pos} {P0 : Addr} {k kk : Nat}
    (Df : DefZ c.G.K X.mg x st (a :: as)) (S : FnScope Ng (a :: as) (defScope st)) (hgv : ∀ (g : Addr) (cdg : Value), Gives X (k + 1) Ng x (defScope st) g cdg (defBody st) a (X.env.qual ++ "<lambda>") (TTz c.G told))
    (hG : c.G.K = X.K) (TB : TabZ c.G X.mg X.base X.env.qual X.env.code P0) (hr : Room kk X.A) (hpa : PA X es (tVars is))
    (hbody : ∀ (A : Around) (outer : List Env) (s : Shared) (H : Hp) (E : XK) (f c' : Addr), Room k (A.deeper (LamX.lamEnv X scope s.heap.objs.size f c')) →
      TkP (LamX.lamCx X A outer s H E scope f c') E → PE (LamX.lamCx X A outer s H E scope f c') body (tm ⟨c.G, c.B, c.ios, fun _ => E⟩ mb))
    (hla : as.length = is.length := by rfl) (hk : k + 2 ≤ kk := by decide) (L : LamX.LamS X.env.scope scope := by exact LamX.lamS_by (by decide +kernel)) (hg : Gl X x := by rfl) (hNg : Ng[0]? = some a := by rfl)
    (hdef : defaultsOf params X.env = ([], []) := by rfl)
    (hbind : ∀ (q : Str) (cl : List (Str × Addr)) (pm cv ctv : Value), bindArgs (PySem.W.kla_fn "<lambda>" q params body scope cl pm cv ctv) ⟨[], []⟩ = pure [] := by exact fun _ _ _ _ _ => rfl)
    (hdb : (x == ("__debug__" : Str)) = false := by decide) (hd : (a == ("__debug__" : Str)) = false := by decide) (hcd : (a == ("__classdict__" : Str)) = false := by decide)
    (he : starEach (.Lambda params body scope lpos :: es) X.env = (false, eval (.Lambda params body scope lpos) X.env) :: starEach es X.env := by rfl) (hpl : (backTo pos (starEach es X.env)).any (·.1) = false := by rfl) :
    PE X (.Call (.Name x p) (.Lambda params body scope lpos :: es) [] pos) (tm c (lamM told is mb)) := by
  obtain ⟨g, fd, F, hm, hb⟩ := Df.ex
  obtain ⟨oc, od, kV, doc, pm, an, cdv, ct, osl, rfl, lk, hcg⟩ := F.ex
  have hkp := F.kp
  rw [hG] at lk hcg hkp hb
  obtain ⟨⟨cd, ecd, tb⟩, mem, un⟩ := TB
  have hva : Vis (defScope st) a := (S.par a List.mem_cons_self).imp id .inl
  refine pe_imp (pe_lam2 (t := fun E => tm ⟨c.G, c.B, c.ios, fun _ => E⟩ mb) (k := k) (TT := TTz c.G told) (T := c.G.T) (is := is) hg hm hkp lk hcg hb S hNg hva hla (hgv g cdv) tb ecd mem un (hr.mono hk) L hdef hbind hpa
    (fun A outer s H E f c' hr2 => hbody A outer s H E f c' hr2 ⟨takes_of rfl rfl rfl rfl, passes_of rfl⟩) hdb hd hcd he hpl) fun σ H Q h => red_lam rfl h
end
end Z

set_option Elab.async false
set_option linter.all false
set_option maxRecDepth 100000
/-! Z40: the law's end where defs make lambdas: the tables of code objects stand empty when the law is called. -/
namespace Z
open PySem PySem.Spec PyProof.Rows L2
/-- nothing is known but the script and the tables -/
def TOnly (cs : List (Addr × Addr)) (H : Hp) : Prop := (∀ p ∈ cs, H p.2 = some (.tbl #[])) ∧ ∀ b, H b = none ∨ (∃ p ∈ cs, b = p.2) ∨ ∃ o xs, H b = some (.frz o (.lst xs))
theorem TOnly.tabs {cs : List (Addr × Addr)} {H : Hp} (h : TOnly cs H) {T : List (Addr × Str)} (k : ∀ p ∈ T, ∃ c, (c, p.1) ∈ cs) : LamX.Tabs T H := fun p hp => by
  obtain ⟨c, hc⟩ := k p hp
  exact ⟨#[], h.1 _ hc, trivial, fun pos cv q => nomatch q⟩
theorem law_callT {P : Program} {w : World} {K : PySem.W.Frag} {mg mb : Str → Option Value} {k : Nat} {fa a : Addr} {cs : List (Addr × Addr)} {fd : FuncData} {x : Str} {sp : Sp} {s1 : Shared} {vs : List Value} {ns : List Int}
    (KX : K.In s1.heap) (hns : s1.heap.Ns mainGlobals mg) (hb : s1.heap.Ns builtinsNs mb) (hbb : ∀ x : Str, x ≠ "__name__" → mb x = bootBuiltins x) (hlim : s1.heap.NoLimit) (hg : s1.gens = #[])
    (hT : ∀ p ∈ cs, s1.heap.get? p.2 = some { cls := .none, data := .fields #[] }) (nT : ∀ p ∈ cs, K.lookup p.2 = none) (hC : ∀ p ∈ cs, PySem.W.CodeHd s1.heap p.1 p.2)
    (hbm : ∃ (bm : Addr) (ob : Obj), mg "__builtins__" = some (.ref bm) ∧ bm ≠ builtinsNs ∧ s1.heap.get? bm = some ob ∧ ob.cls = .type "module" ∧ ob.dict = some builtinsNs ∧ ob.data = .plain)
    (ha : s1.heap.get? a = some { cls := .type "list", data := .seq vs.toArray }) (hi : IntsAre vs ns) (hl : ns.length ≤ sizeLine) (hr : Room k callerA)
    (F : ∀ base : Heap, K.In base → base.Ns mainGlobals mg → (∀ p ∈ cs, LamX.TabB base mg p.1 p.2) → FnG P w K mg base k fa fd [x] sp) (hbind : ∀ (s : Shared) (u : Value), BindsTo s fd ⟨[u], []⟩ [(x, u)])
    (hsp : ∀ H : Hp, TOnly cs H → SqL K H a (ns.map V.int) → sp [.ref a] H (fun v _ => v = .bl true) fun _ _ _ => False) :
    codeAny (model P w) callerA (.call (.ref fa) ⟨[.ref a], []⟩) (fun r s' => r = .ok (.ret (.bool true)) ∧ OldK s1.heap s'.heap ∧ s'.os = s1.os ∧ AllBare s'.gens) s1 := by
  have size : vs.length = ns.length := hi.length
  have notTab : ∀ {b : Addr} {o : Obj}, s1.heap.get? b = some o → o.data ≠ .fields #[] → ∀ p ∈ cs, b ≠ p.2 := fun {b o} e n p hp q => by
    have z := hT p hp
    rw [← q, e] at z
    cases z
    exact n rfl
  -- the run, out of an abstract heap that tracks the tables and the script, or the tables alone
  have run1 : ∀ T : Hp, TOnly cs T → SqL K T a (ns.map V.int) → HOk P w T s1.heap → (∀ b u, T b = some u → (b = a ∧ K.lookup a = none) ∨ ∃ p ∈ cs, b = p.2) →
      codeAny (model P w) callerA (.call (.ref fa) ⟨[.ref a], []⟩) (fun r s' => r = .ok (.ret (.bool true)) ∧ OldK s1.heap s'.heap ∧ s'.os = s1.os ∧ AllBare s'.gens) s1 := fun T only script fine mine => by
    have stands : ∀ {b : Addr} {o : Obj}, s1.heap.get? b = some o → (b ≠ a ∨ ∃ q, K.lookup a = some q) → (∀ p ∈ cs, b ≠ p.2) → (hidT s1.heap T).get? b = some o := fun {b o} h why far => hidT_get h (by
      match q : T b with
      | none => rfl
      | some u =>
        rcases mine b u q with ⟨e1, e2⟩ | ⟨p, hp, e1⟩
        · rcases why with z | ⟨_, z⟩
          · exact absurd e1 z
          · rw [e2] at z; cases z
        · exact absurd e1 (far p hp))
    have noSeq : ∀ {b : Addr} {o : Obj}, s1.heap.get? b = some o → (∀ xs n, o.data ≠ .seq xs n) → b ≠ a := fun {b o} e n q => by
      subst q
      rw [ha] at e
      cases e
      exact n _ _ rfl
    have spaces : ∀ {b : Addr} {m : Str → Option Value}, s1.heap.Ns b m → (hidT s1.heap T).Ns b m := fun {b m} n => by
      obtain ⟨o, es, ep, h1, h2, h3⟩ := n
      exact ⟨o, es, ep, stands h1 (.inl (noSeq h1 fun xs n z => by rw [h2] at z; cases z)) (notTab h1 fun z => by rw [h2] at z; cases z), h2, h3⟩
    have parts : K.In (hidT s1.heap T) := fun b o h => by
      refine stands (KX b o h) ?_ fun p hp q => ?_
      · by_cases e : b = a
        · exact .inr ⟨o, e ▸ h⟩
        · exact .inl e
      · rw [q, nT p hp] at h
        cases h
    have tabs : ∀ p ∈ cs, LamX.TabB (hidT s1.heap T) mg p.1 p.2 := fun p hp => by
      have tp := hT p hp
      refine { code := ?_, bm := ?_, gP := fun q => ?_ }
      · obtain ⟨o, us, fl, tf, fg, tg, inF, tx, tt, c1, c2, c3, c4, cr⟩ := hC p hp
        refine ⟨o, us, fl, tf, fg, tg, inF, tx, tt, stands c1 (.inl (noSeq c1 fun xs n z => by rw [c3] at z; cases z)) (notTab c1 fun z => ?_), c2, c3, c4, cr⟩
        rw [c3] at z
        cases z
        simp at c4
      · obtain ⟨bm, ob, b1, b2, b3, b4, b5, b6⟩ := hbm
        have plain : ∀ d : Data, d ≠ .plain → ob.data ≠ d := fun d n z => n (z.symm.trans b6)
        refine ⟨bm, ob, b1, b2, fun q => ?_, notTab b3 (plain _ (fun z => nomatch z)) p hp, stands b3 (.inl (noSeq b3 fun xs n => plain _ (fun z => nomatch z))) (notTab b3 (plain _ (fun z => nomatch z))), b4, b5, b6⟩
        obtain ⟨o, es, ep, h1, h2, _⟩ := hns
        rw [q, h1] at b3
        cases b3
        rw [b6] at h2
        cases h2
      · obtain ⟨o, es, ep, h1, h2, _⟩ := hns
        rw [q, tp] at h1
        cases h1
        cases h2
    obtain ⟨ml, l1, l2⟩ := hlim
    have module : Mod K mg (hidT s1.heap T) := { kin := parts, glob := spaces hns, blt := ⟨mb, spaces hb, hbb⟩, nolimit := ⟨ml, spaces l1, l2⟩ }
    have around : Env0 P w K mg (hidT s1.heap T) callerA [] s1 T :=
      { frames := rfl, mod := module, bs := fun b o h => of_hidT h, bsz := Nat.le_of_eq (hidT_size _ _), funs := trivial, frf := (fun b h => nomatch h), hok := fine, bare := .of_eq hg }
    have ran := (F _ parts (spaces hns) tabs).go (A := callerA) (args := ⟨[.ref a], []⟩) (us := [.ref a]) (vs := [.ref a]) rfl hr around (hbind s1 (.ref a)) (.cons rfl .nil) (hsp T only script)
    refine codeAny_mono ran fun res s' got => ?_
    match res, got with
    | .error _, ⟨_, _, _, _, _, _, _, _, _, _, _, _, z⟩ => exact z.elim
    | .ok .next, no => exact no.elim
    | .ok .brk, no => exact no.elim
    | .ok .cont, no => exact no.elim
    | .ok (.ret u), ⟨v, T', os, bare, un, fine', rel, ev⟩ =>
      dsimp only at ev
      subst ev
      have eu : u = Value.bool true := rel
      subst eu
      have kept : ∀ b o, (∀ p ∈ cs, b ≠ p.2) → s1.heap.get? b = some o → s'.heap.get? b = some o := fun b o far old => by
        rcases only.2 b with free | ⟨p, hp, e⟩ | ⟨ob, xs, lock⟩
        · exact un.keep b o old free (fun z => (nomatch z)) (fun z => (nomatch z))
        · exact absurd e (far p hp)
        · have before := (fine b _ lock).1
          have after := (fine' b _ (un.frzs b ob _ lock)).1
          rw [old] at before
          cases before
          exact after
      have grown : ∀ p ∈ cs, ∃ more : Array Value, s'.heap.get? p.2 = some { cls := .none, data := .fields more } := fun p hp => by
        obtain ⟨more, z⟩ := un.tbls p.2 #[] (only.1 p hp)
        exact ⟨_, fine' p.2 _ z⟩
      have cases2 : ∀ b, (∃ p ∈ cs, b = p.2) ∨ ∀ p ∈ cs, b ≠ p.2 := fun b => by
        by_cases q : ∃ p ∈ cs, b = p.2
        · exact .inl q
        · exact .inr fun p hp e => q ⟨p, hp, e⟩
      refine ⟨rfl, { old := fun b o old => ?_, there := fun b o old => ?_ }, os, bare⟩
      · rcases cases2 b with ⟨p, hp, e⟩ | far
        · subst e
          obtain ⟨more, now⟩ := grown p hp
          have was := hT p hp
          rw [was] at old
          cases old
          exact .inr (.inl ⟨((hC p hp).tab was).isCodeTable, rfl, #[], more, rfl, (by rw [Array.empty_append]; exact now)⟩)
        · exact .inl (kept b o far old)
      · rcases cases2 b with ⟨p, hp, e⟩ | far
        · subst e
          obtain ⟨more, now⟩ := grown p hp
          exact ⟨_, now⟩
        · exact ⟨o, kept b o far old⟩
  have offA : ∀ p ∈ cs, p.2 ≠ a := fun p hp q => by
    have z := hT p hp
    rw [q, ha] at z
    cases z
  haveI isT : ∀ b, Decidable (∃ p ∈ cs, b = p.2) := fun b => Classical.propDecidable _
  let tb : Hp := fun b => if ∃ p ∈ cs, b = p.2 then some (.tbl #[]) else none
  have tb_in : ∀ p ∈ cs, tb p.2 = some (.tbl #[]) := fun p hp => if_pos ⟨p, hp, rfl⟩
  have tb_some : ∀ b u, tb b = some u → (∃ p ∈ cs, b = p.2) ∧ u = .tbl #[] := fun b u z => by
    by_cases q : ∃ p ∈ cs, b = p.2
    · have z := (if_pos q).symm.trans z
      exact ⟨q, (Option.some.inj z).symm⟩
    · cases (if_neg q).symm.trans z
  have tbOk : ∀ b, (∃ p ∈ cs, b = p.2) → ObjOk P w tb s1.heap b (.tbl #[]) := fun b ⟨p, hp, e⟩ => by
    subst e
    exact hT p hp
  match part : K.lookup a with
  | some o =>
    have same := KX a o part
    rw [ha] at same
    cases same
    refine run1 tb ⟨tb_in, fun b => ?_⟩ (.inr ⟨_, vs.toArray, _, part, rfl, rfl, rfl, by rw [List.size_toArray, size]; exact hl, by simpa using vals_ints hi⟩) (fun b u z => ?_) (fun b u z => .inr (tb_some b u z).1)
    · by_cases q : ∃ p ∈ cs, b = p.2
      · exact .inr (.inl q)
      · exact .inl (if_neg q)
    · obtain ⟨q, e⟩ := tb_some b u z
      subst e
      exact tbOk b q
  | none =>
    let O : Obj := { cls := .type "list", data := .seq vs.toArray }
    have at_a : (fun b => if b = a then some (HO.frz O (.lst (ns.map V.int))) else tb b : Hp) a = some (.frz O (.lst (ns.map V.int))) := if_pos rfl
    refine run1 (fun b => if b = a then some (.frz O (.lst (ns.map V.int))) else tb b) ⟨fun p hp => (if_neg (offA p hp)).trans (tb_in p hp), fun b => ?_⟩ (.inl (.inr ⟨O, at_a⟩)) (fun b u z => ?_) (fun b u z => ?_)
    · by_cases e : b = a
      · exact .inr (.inr ⟨O, ns.map V.int, if_pos e⟩)
      · by_cases q : ∃ p ∈ cs, b = p.2
        · exact .inr (.inl q)
        · exact .inl ((if_neg e).trans (if_neg q))
    · by_cases e : b = a
      · have z := (if_pos e).symm.trans z
        cases z
        rw [e]
        exact ⟨ha, by rw [List.length_map]; exact hl, vs, _, vals_ints hi, ha⟩
      · obtain ⟨q, e2⟩ := tb_some b u ((if_neg e).symm.trans z)
        subst e2
        exact tbOk b q
    · by_cases e : b = a
      · exact .inl ⟨e, part⟩
      · exact .inr (tb_some b u ((if_neg e).symm.trans z)).1
/-- what is known of the tables at the head: cs, the code objects and their tables, of the defs named in ms -/
theorem walk_T {l : PySem.W.OpenLaw} {n k : Nat} {q : Program} {loose : List Str} {XP : (Str → Option Value) → Heap → Prop} {YP : World → Heap → Prop} {d : DefRec} {K : Params → PySem.W.Frag} {x : Str}
    (ms : List Str) (hms : ∀ x ∈ ms, ∃ d', (recsOf q).find? (fun e => e.name == x) = some d')
    (hn : l.most = some n) (hn2 : n ≤ sizeLine) (hdf : d.params.defaults = []) (hr : Room k callerA) (hY : ∀ (w : World) (h : Heap), YP w h → (K w.params).In h)
    (F : ∀ (w : World) (mg : Str → Option Value) (fa : Addr) (h : Heap), (K w.params).In h → h.Ns mainGlobals mg → mg d.name = some (.ref fa) →
      ∃ (fd : FuncData) (cs : List (Addr × Addr)) (sp : Sp), (∀ p ∈ cs, ∃ x ∈ ms, PySem.W.tabIn (K w.params) x = some p) ∧ (∀ p ∈ cs, (K w.params).lookup p.2 = none) ∧ (∀ (s : Shared) (u : Value), BindsTo s fd ⟨[u], []⟩ [(x, u)]) ∧
        (∀ (H : Hp) (a : Addr) (ns : List Int), ns.length ≤ n → TOnly cs H → SqL (K w.params) H a (ns.map V.int) → sp [.ref a] H (fun v _ => v = .bl true) fun _ _ _ => False) ∧
        ∀ base : Heap, (K w.params).In base → base.Ns mainGlobals mg → (∀ p ∈ cs, LamX.TabB base mg p.1 p.2) → FnG l.prog w (K w.params) mg base k fa fd [x] sp) :
    PySem.W.WalkO q loose XP YP l.row.toRowW d [] (fun f vs => PySem.call f vs) := by
  refine Att.attach_callB hn hdf fun w s0 s1 mg mb fa o pm_ cd doc a vs ns G Y ho hd hcd hmg hobj hints hlen hbits hg => ?_
  obtain ⟨fd, cs, sp, hcs, nT, hb, hsp, hF⟩ := F w mg fa _ (hY w _ Y) G.T.g hmg
  have got : ∀ p ∈ cs, PySem.W.CodeHd s1.heap p.1 p.2 ∧ s1.heap.get? p.2 = some (PySem.W.tabObj #[]) := fun p hp => by
    obtain ⟨x, hx, e⟩ := hcs p hp
    obtain ⟨d', hd'⟩ := hms x hx
    exact PySem.W.tab_of G.T (hY w _ Y) hd' e
  exact law_callT (hY w _ Y) G.T.g G.T.b G.T.builtins G.T.nolimit hg (fun p hp => (got p hp).2) nT (fun p hp => (got p hp).1) G.T.bmain hobj hints (Nat.le_trans hlen hn2) hr hF hb fun H hO hS => hsp H a ns hlen hO hS
end Z

set_option Elab.async false
set_option linter.all false
set_option maxRecDepth 100000
set_option maxHeartbeats 4000000
/-! Z41: what is written of exception classes, told by tests that are reckoned. -/
namespace Z
open PySem PySem.Spec PyProof.Rows L2
/-- the classes' places -/
def clsF (l : List (Str × Addr)) (x : Str) : Addr := (l.lookup x).getD 0
def xcB (K : PySem.W.Frag) (C : Addr) : Bool :=
  xfB K C && (decide (PySem.W.findIn K (.ref C) "__class__" = some (some (.builtin "object.__class__"))) && (decide (PySem.W.specialIn K (.builtin "object.__class__") "__get__" = some (some (.builtin "getset_descriptor.__get__"))) &&
    (decide (PySem.W.takesIn K (.builtin "object.__class__") = some true) && (decide (PySem.W.mroIn K C (.type "object") = some true) && (PySem.W.clsIn K C).isSome))))
theorem xcB_ok {K : PySem.W.Frag} {C : Addr} (h : xcB K C = true) : XfC K C ∧ ExcC K C ∧ (PySem.W.clsIn K C).isSome = true := by
  obtain ⟨h1, h⟩ := Bool.and_eq_true_iff.mp h
  obtain ⟨h2, h⟩ := Bool.and_eq_true_iff.mp h
  obtain ⟨h3, h⟩ := Bool.and_eq_true_iff.mp h
  obtain ⟨h4, h⟩ := Bool.and_eq_true_iff.mp h
  obtain ⟨h5, h6⟩ := Bool.and_eq_true_iff.mp h
  have x := xfB_ok h1
  exact ⟨x, ⟨x.ga, x.gg, x.exC, x.hdC, of_decide_eq_true h2, of_decide_eq_true h3, of_decide_eq_true h4, of_decide_eq_true h5⟩, h6⟩
def kiB (K : PySem.W.Frag) (a b : Value) (r : Bool) : Bool := decide (PySem.W.kitOne K a b = some r)
def xkB (K : PySem.W.Frag) (cls : Str → Addr) (k : XK_) : Bool :=
  (k.Kn.all fun C => xcB K (cls C) && ((k.Kn.all fun C' => kiB K (.ref (cls C)) (.ref (cls C')) (decide (C = C'))) && ((k.Bt.all fun T => kiB K (.ref (cls C)) (.type T) (decide (T ∈ k.bs C))) && kiB K (.type "NoneType") (.ref (cls C)) false))) &&
    k.Bt.all fun T => kiB K (.type "NoneType") (.type T) false
theorem xkB_ok {K : PySem.W.Frag} {cls : Str → Addr} {k : XK_} (h : xkB K cls k = true) : XcF K cls k := by
  obtain ⟨h1, h2⟩ := Bool.and_eq_true_iff.mp h
  have at_ : ∀ C ∈ k.Kn, xcB K (cls C) = true ∧ (∀ C' ∈ k.Kn, kiB K (.ref (cls C)) (.ref (cls C')) (decide (C = C')) = true) ∧ (∀ T ∈ k.Bt, kiB K (.ref (cls C)) (.type T) (decide (T ∈ k.bs C)) = true) ∧ kiB K (.type "NoneType") (.ref (cls C)) false = true := fun C hC => by
    have z := List.all_eq_true.mp h1 C hC
    obtain ⟨z1, z⟩ := Bool.and_eq_true_iff.mp z
    obtain ⟨z2, z⟩ := Bool.and_eq_true_iff.mp z
    obtain ⟨z3, z4⟩ := Bool.and_eq_true_iff.mp z
    exact ⟨z1, fun C' h' => List.all_eq_true.mp z2 C' h', fun T h' => List.all_eq_true.mp z3 T h', z4⟩
  exact { c := fun C hC => (xcB_ok (at_ C hC).1).2, one := fun C hC C' h' => of_decide_eq_true ((at_ C hC).2.1 C' h'), oneB := fun C hC T hT => of_decide_eq_true ((at_ C hC).2.2.1 T hT),
          non := fun C hC => of_decide_eq_true (at_ C hC).2.2.2, nonB := fun T hT => of_decide_eq_true (List.all_eq_true.mp h2 T hT) }
def exB (K : PySem.W.Frag) (cls : Str → Addr) (Kn Cs : List Str) : Bool := Kn.all fun C => decide (PySem.W.exmAny K (.ref (cls C)) (Cs.map fun c => .ref (cls c)) = some (decide (C ∈ Cs)))
theorem exB_ok {K : PySem.W.Frag} {cls : Str → Addr} {Kn Cs : List Str} (h : exB K cls Kn Cs = true) : ∀ C ∈ Kn, PySem.W.exmAny K (.ref (cls C)) (Cs.map fun c => .ref (cls c)) = some (decide (C ∈ Cs)) := fun C hC => of_decide_eq_true (List.all_eq_true.mp h C hC)
def fdB (K : PySem.W.Frag) (cls : Str → Addr) (Kn : List Str) (f : Str) : Bool := Kn.all fun C => xfB K (cls C) && decide (PySem.W.findIn K (.ref (cls C)) f = some none)
theorem fdB_ok {K : PySem.W.Frag} {cls : Str → Addr} {Kn : List Str} {f : Str} (h : fdB K cls Kn f = true) : ∀ C ∈ Kn, XfC K (cls C) ∧ PySem.W.findIn K (.ref (cls C)) f = some none := fun C hC => by
  obtain ⟨z1, z2⟩ := Bool.and_eq_true_iff.mp (List.all_eq_true.mp h C hC)
  exact ⟨xfB_ok z1, of_decide_eq_true z2⟩
def oxB (K : PySem.W.Frag) (C : Addr) (f : Str) : Bool :=
  decide (PySem.W.findIn K (.ref C) "__setattr__" = some (some (.builtin "object.__setattr__"))) && (decide (PySem.W.subIn K (.ref C) (.type "BaseException") = some true) && (decide (PySem.W.typeIn K (.ref C) = some (.type "type")) && (PySem.W.keepIn K (.ref C) &&
    decide (PySem.W.findIn K (.ref C) f = some none))))
theorem clsX_mk {K : PySem.W.Frag} {mg : Str → Option Value} {h : Heap} {x q f : Str} {C fI : Addr} {st : Stmt} {newId : String} {bmB : List Value} {nm qn : Str} {N : Addr} {bs : List Value} {sn sub ab col dd k0 k1 k2 k3 k5} (X : K.In h) (Gn : h.Ns mainGlobals mg) (a : PySem.W.nsIn K mainGlobals x = some (some (.ref C)))
    (xL : K.lookup C = some (excClassObj nm qn C N bs bmB true sn sub ab col dd k0 k1 k2 k3 k5 newId)) (o : oxB K C f = true) (iC : PySem.W.findIn K (.ref C) "__init__" = some (some (.ref fI))) (tI : PySem.W.typeIn K (.ref fI) = some (.type "function"))
    {oc : Value} {od an : Option Addr} {osl : Array (Option Value)} {kV doc pm cdv ct : Value} (l : K.lookup fI = some ⟨oc, od, .func (PySem.W.fnOf "__init__" q (defArgs st) (defBody st) (defScope st) .none kV doc pm an cdv ct), osl⟩) (c : PySem.W.codeIn K cdv q = true) (k : PySem.W.keepIn K (.ref fI) = true)
    (hb : ∀ (kV doc pm : Value) (an : Option Addr) (cdv ct : Value) (us : List Value), us.length = (["self", f] : List Str).length → bindArgs (PySem.W.fnOf "__init__" q (defArgs st) (defBody st) (defScope st) .none kV doc pm an cdv ct) ⟨us, []⟩ = pure ((["self", f] : List Str).zip us)) : ClsX K mg x C st q f newId bmB := by
  obtain ⟨h1, o⟩ := Bool.and_eq_true_iff.mp o
  obtain ⟨h2, o⟩ := Bool.and_eq_true_iff.mp o
  obtain ⟨h3, o⟩ := Bool.and_eq_true_iff.mp o
  obtain ⟨h4, h5⟩ := Bool.and_eq_true_iff.mp o
  exact { gC := PySem.W.mg_of X Gn a, ox := ⟨⟨nm, qn, N, bs, sn, sub, ab, col, dd, k0, k1, k2, k3, k5, xL⟩, of_decide_eq_true h1, of_decide_eq_true h2, of_decide_eq_true h3, h4⟩, free := of_decide_eq_true h5,
          ini := ⟨fI, _, fun_mk l c k, (fun_mk l c k).binds hb, iC, tI⟩ }
theorem tab_mk {K : PySem.W.Frag} {x : Str} {st : Stmt} {f c P0 : Addr} {oc e : Value} {od an dd : Option Addr} {osl sl : Array (Option Value)} {kV doc pm cdv ct : Value} {tv : Array Value} (a : PySem.W.nsIn K mainGlobals x = some (some (.ref f)))
    (l : K.lookup f = some ⟨oc, od, .func (PySem.W.fnOf x x (defArgs st) (defBody st) (defScope st) .none kV doc pm an cdv ct), osl⟩) (q : cdv = .ref c) (r : K.lookup c = some ⟨e, dd, .fields tv, sl⟩) (s : (tv[11]? : Option Value) = some (.ref P0)) : PySem.W.tabIn K x = some (c, P0) := by
  subst q
  unfold PySem.W.tabIn
  rw [a]
  dsimp only
  rw [l]
  dsimp only [PySem.W.fnOf]
  rw [r]
  dsimp only
  rw [s]
theorem defL_mk {G : Cfg} {mg : Str → Option Value} {h base : Heap} {x : Str} {st : Stmt} {ps : List Str} {f c P0 : Addr} {oc : Value} {od an : Option Addr} {osl : Array (Option Value)} {kV doc pm cdv ct : Value} (X : G.K.In h) (Gn : h.Ns mainGlobals mg) (a : PySem.W.nsIn G.K mainGlobals x = some (some (.ref f)))
    (l : G.K.lookup f = some ⟨oc, od, .func (PySem.W.fnOf x x (defArgs st) (defBody st) (defScope st) .none kV doc pm an cdv ct), osl⟩) (cI : PySem.W.codeIn G.K cdv x = true) (k : PySem.W.keepIn G.K (.ref f) = true)
    (hb : ∀ (kV doc pm : Value) (an : Option Addr) (cdv ct : Value) (us : List Value), us.length = ps.length → bindArgs (PySem.W.fnOf x x (defArgs st) (defBody st) (defScope st) .none kV doc pm an cdv ct) ⟨us, []⟩ = pure (ps.zip us))
    (tI : PySem.W.tabIn G.K x = some (c, P0)) (tb : LamX.TabB base mg c P0) (mem : (P0, (x ++ ".<locals>.") ++ "<lambda>") ∈ G.T) (un : ∀ p ∈ G.T, p.1 = P0 → p.2 = (x ++ ".<locals>.") ++ "<lambda>") (hps : ps = (defArgs st).args.map (·.arg) := by rfl) : DefL G mg base x st ps := by
  have hm := PySem.W.mg_of X Gn a
  have ec := PySem.W.law_code X Gn tI hm (X _ _ l) rfl
  exact ⟨hps, f, _, oc, od, kV, doc, pm, an, cdv, ct, osl, P0, rfl, l, cI, k, hm, (fun_mk l cI k).binds hb, ⟨⟨c, ec, tb⟩, mem, un⟩⟩
end Z

set_option Elab.async false
set_option linter.all false
set_option maxRecDepth 100000
set_option maxHeartbeats 4000000
/-! Z42: what is handed beside a lambda may be a list of its own: it is shared from then on. -/
namespace Z
open PySem PySem.Spec PyProof.Rows L2
def fzSl (r : Rho) : List Nat → Rho
  | [] => r
  | i :: is => fzSl (match r[i]? with
    | some (some d) => r.set i (some (freeze d))
    | _ => r) is
def lamF (told : List D → FR → Option D) (is : List Nat) (body : M D) : M D := fun r => lamM told is body (fzSl r is)
variable {c : Ctx} {σ : L2.St} {H : Hp} {Q : VK}
theorem Now.fz : ∀ {is : List Nat} {r : Rho} {e : List It}, Now c σ H [] r e → Now c σ H [] (fzSl r is) e
  | [], _, _, n => n
  | i :: is, r, e, n => by
    unfold fzSl
    refine Now.fz ?_
    split
    · rename_i d h
      obtain ⟨v, hv⟩ := n.al.al.has i d h
      exact ⟨n.al.setR hv, n.vok, W.fzSlot n.w n.al.al hv h⟩
    · exact n
theorem red_lamF {told : List D → FR → Option D} {is : List Nat} {mb : M D} (h : tm c (lamF told is mb) σ H Q) : tm c (lamM told is mb) σ H Q := by
  obtain ⟨r, e, x, n, hx, fin⟩ := h
  exact ⟨_, e, x, n.fz, hx, fin⟩
theorem z_lamF {X : Cx} {e : Expr} {told : List D → FR → Option D} {is : List Nat} {mb : M D} (h : PE X e (tm c (lamM told is mb))) : PE X e (tm c (lamF told is mb)) := pe_imp h fun σ H Q q => red_lamF q
end Z

set_option Elab.async false
set_option linter.all false
set_option maxRecDepth 100000
/-! Z43: a call by names alone that may raise. -/
namespace Z
open PySem PySem.Spec PyProof.Rows L2
section
variable {X : Cx} {c : Ctx} {x : Str} {p pos : Pos} {kws : List Keyword} {ms : M (List Opd)} {φ : List D → Option FR} {k kk : Nat} {f : Addr} {fd : FuncData} {ps ks : List Str} {ix : List Nat} {G : Cfg} {B : Bs} {ios : List (Nat × V)} {E : XK}
theorem z_callKx (tk : Takes X (fun cls d _ H => E cls d H)) (Fn : FnOk X.prog X.w X.K X.mg X.base (L2.CX X.prog X.w) k f fd ps (spZ G 0 φ)) (hr : Room kk X.A) (hkk : k ≤ kk) (hb : KBinds X.K fd ps ks (gK ix) (gK ix)) (hm : X.mg x = some (.ref f)) (hk : PySem.W.keepIn X.K (.ref f) = true) (ha : PK X kws (tma ⟨G, B, ios, fun _ => E⟩ ms)) (hg : Gl X x)
    (hall : (backToKw pos (keywordEach kws X.env)).all (·.1.isSome) = true) (hks : (backToKw pos (keywordEach kws X.env)).filterMap (·.1) = ks)
    (hpl : ((backTo pos (starEach [] X.env)).any (·.1) || (backToKw pos (keywordEach kws X.env)).any (·.1.isNone)) = false) (hdb : (x == ("__debug__" : Str)) = false) :
    PE X (.Call (.Name x p) [] kws pos) (tm ⟨G, B, ios, fun _ => E⟩ (caxK ix φ ms)) := by
  refine pe_imp (pe_callKW (E := E) Fn (hr.mono hkk) hg hm hk hb (fun pins σ H s e s' I q => passAt tk σ pins H s e s' I q) ha hall hks hpl hdb) fun σ H Q h => ?_
  refine tma_mono (tk_bndA h) fun vs H1 ⟨os, hl, r, e, x, n, hx, fin⟩ => ?_
  dsimp only at hx
  split at hx
  · rename_i ds hd
    have w : W G B H1 ([] ++ (tmps (vs.zip os) ++ (e ++ envI σ r))) := by
      have := n.w
      rw [List.append_nil] at this
      exact this
    have hlen : vs.length = ds.length := by rw [hl, opdDs_len hd]
    have inn : ∀ p ∈ vs.zip ds, p ∈ tmps (vs.zip os) ∨ p ∈ e ++ envI σ r := opd_in hl (fun y i m d hd => List.mem_append_right _ (List.mem_of_getElem? (envI_get (n.vok y i (by rw [List.append_nil]; exact m)) hd))) hd
    have hlen' := pm_len (ix := ix) hlen
    have inn' : ∀ p ∈ (pm ix vs).zip (pm ix ds), p ∈ tmps (vs.zip os) ∨ p ∈ e ++ envI σ r := fun p hp => inn p (pm_zip hlen p hp)
    split at hx
    · rename_i d hphi
      split at hx
      · rename_i hc
        cases hx
        have hb : allOwn d = false → ∀ p ∈ (pm ix vs).zip (pm ix ds), p ∈ tmps (vs.zip os) ∨ noOwn p.2 = true := fun hf p hp => frz_mem hl hd (by rw [hf] at hc; simpa using hc) p (pm_zip hlen p hp)
        obtain ⟨F', O', c1, c2, c3, c4, c4t, c5⟩ := callW (b := allOwn d) w hlen' inn' hb
        refine ⟨F', O', (pm ix ds).map freeze, _, by simp [gK, hlen'], c1, c2, c3, c4, c4t, hphi, fun _ v H' w2 => ?_⟩
        exact fin v H' n.al (c5 _ _ w2 fun hb p hp => by simp at hp; rw [hp]; exact hb)
      · cases hx
    · rename_i C ns es hphi
      split at hx
      · rename_i hc
        cases hx
        have hb : allOwns es = false → ∀ p ∈ (pm ix vs).zip (pm ix ds), p ∈ tmps (vs.zip os) ∨ noOwn p.2 = true := fun hf p hp => frz_mem hl hd (by rw [hf] at hc; simpa using hc) p (pm_zip hlen p hp)
        obtain ⟨F', O', c1, c2, c3, c4, c4t, c5⟩ := callW (b := allOwns es) w hlen' inn' hb
        refine ⟨F', O', (pm ix ds).map freeze, _, by simp [gK, hlen'], c1, c2, c3, c4, c4t, hphi, fun _ ws dx H' h1 h2 h3 => ?_⟩
        exact fin ws dx H' n.al h1 (c5 _ _ (by simpa using h2) fun hb p hp => allOwns_mem hb p hp) h3
      · cases hx
    · cases hx
  · cases hx
theorem z_ckx {st : Stmt} {ks : List Str} (tk : Takes X (fun cls d _ H => E cls d H)) (ix : List Nat) (C : CalZ X.prog X.w G X.mg X.base k x 0 φ) (Df : DefZ G.K X.mg x st ps) (hG : G.K = X.K) (hr : Room kk X.A) (ha : PK X kws (tma ⟨G, B, ios, fun _ => E⟩ ms)) (hkk : k ≤ kk) (hp0 : 0 < ps.length)
    (hb : ∀ (kV doc pm_ : Value) (an : Option Addr) (cdv ct : Value) (ws : List Value), (pm ix ws).length = ps.length → bindArgs (PySem.W.fnOf x x (defArgs st) (defBody st) (defScope st) .none kV doc pm_ an cdv ct) ⟨[], ks.zip ws⟩ = pure (ps.zip (pm ix ws)))
    (hg : Gl X x := by rfl)
    (hall : (backToKw pos (keywordEach kws X.env)).all (·.1.isSome) = true := by rfl) (hks : (backToKw pos (keywordEach kws X.env)).filterMap (·.1) = ks := by rfl)
    (hpl : ((backTo pos (starEach [] X.env)).any (·.1) || (backToKw pos (keywordEach kws X.env)).any (·.1.isNone)) = false := by rfl) (hdb : (x == ("__debug__" : Str)) = false := by decide) :
    PE X (.Call (.Name x p) [] kws pos) (tm ⟨G, B, ios, fun _ => E⟩ (caxK ix φ ms)) := by
  obtain ⟨f, fd, ps', h1, h2, h3, h4, st', F', e'⟩ := C.ex
  obtain ⟨f0, fd0, F0, m0, b0⟩ := Df.ex
  have ef : f0 = f := by rw [h3] at m0; cases m0; rfl
  subst ef
  have efd : fd0 = fd := by
    obtain ⟨_, _, _, _, _, _, _, _, _, _, l1, _⟩ := F0.ex
    obtain ⟨_, _, _, _, _, _, _, _, _, _, l2, _⟩ := F'.ex
    rw [l1] at l2
    cases l2
    rfl
  subst efd
  have eps : ps' = ps := by
    obtain ⟨_, _, _, _, _, _, _, _, _, q1, _⟩ := F0.ex
    obtain ⟨_, _, _, _, _, _, _, _, _, q2, _⟩ := F'.ex
    have : (defArgs st) = defArgs st' := congrArg (·.params) (q1.symm.trans q2)
    rw [e', Df.hps, this]
  subst eps
  rw [hG] at h1 h4
  have kb : KBinds X.K fd0 ps' ks (gK ix) (gK ix) := ⟨fun s us ws hk hl => by
    cases us with
    | nil =>
      obtain ⟨oc, od, kV, doc, pm_, an, cdv, ct, osl, q, _⟩ := F0.ex
      subst q
      exact .of_eq (hb kV doc pm_ an cdv ct ws hl)
    | cons u us => exact absurd hl (by show ¬ 0 = _; omega), fun {vs us zs ws} rv rz => by
    cases rv with
    | nil => exact pm_vals rz
    | cons _ _ => exact .nil⟩
  exact z_callKx tk h1 hr hkk kb h3 h4 ha hg hall hks hpl hdb
end
/-- what is known inside a try of the way out -/
structure TkW (X : Cx) (W : WX) : Prop where
  tk : Takes X W
  hp : PassesOwn (model X.prog X.w) X.A X.env X.xe
end Z

set_option Elab.async false
set_option linter.all false
set_option maxRecDepth 100000
/-! Z44: a[k].append(text), a a list of lists. -/
namespace Z
open PySem PySem.Spec PyProof.Rows L2
variable {c : Ctx} {σ : L2.St} {H : Hp} {l : Pend} {r : Rho} {e : List It} {X : Cx} {Q : VK} {N : Ends} {nio : Nat} {G : Cfg} {B : Bs} {g : List It} {a : Addr}
theorem W.innerL {l m : List D} {p : Nat} {v0 : V} {yv : V} {d : D} (w : W G B H ((v0, .lst true l) :: ((yv, d) :: g))) (hl : l[p]? = some (.lst true m)) :
    ∃ a xs b ys, v0 = .ref a ∧ H a = some (.lst xs) ∧ xs[p]? = some (.ref b) ∧ H b = some (.lst ys) ∧ ys.length = m.length ∧ W G B (upd H b (.lst (ys ++ [yv]))) ((v0, .lst true (l.set p (.lst true (m ++ [d])))) :: g) := by
  obtain ⟨a, xs, e1, e2, ln, wo⟩ := w.openL
  have hp : p < l.length := (List.getElem?_eq_some_iff.mp hl).1
  have hpx : p < xs.length := by rw [ln]; exact hp
  obtain ⟨x0, hx0⟩ : ∃ x0, xs[p]? = some x0 := ⟨_, List.getElem?_eq_getElem hpx⟩
  have hz : (xs.zip l)[p]? = some (x0, .lst true m) := (List.getElem?_zip_eq_some (z := (x0, D.lst true m))).mpr ⟨hx0, hl⟩
  -- the dict's address holds an empty list meanwhile
  have w1 : W G B (upd H a (.lst [])) ((.ref a, .lst true []) :: (xs.zip l ++ ((yv, d) :: g))) := Wo.closeL (xs := []) (l := []) wo rfl
  have w2 : W G B (upd H a (.lst [])) ((x0, .lst true m) :: ((.ref a, .lst true []) :: ((xs.zip l).eraseIdx p ++ ((yv, d) :: g)))) := by
    refine w1.perm ?_
    refine List.Perm.trans ?_ (List.Perm.swap _ _ _)
    refine List.Perm.cons _ ?_
    exact (perm_erase hz).append_right _
  obtain ⟨b, ys, rfl, hb, ly, wo2⟩ := w2.openL
  have hab : b ≠ a := fun z => by
    have w3 := w2
    obtain ⟨F, O, wf, O1, O2, t1, ⟨O3, O4, t2, _, e4⟩, e3⟩ := w3
    subst e3 e4
    simp only [Tr] at t1 t2
    obtain ⟨b1, _, O5, q1, _, _, q2⟩ := t1
    obtain ⟨b2, _, O6, q3, _, _, q4⟩ := t2
    cases q1; cases q3
    subst q2 q4
    have nd := wf.nd
    rw [z] at nd
    simp at nd
  rw [upd_ne hab] at hb
  have w4 : W G B (upd (upd H a (.lst [])) b (.lst (ys ++ [yv]))) ((.ref b, .lst true (m ++ [d])) :: ((.ref a, .lst true []) :: ((xs.zip l).eraseIdx p ++ g))) := by
    refine Wo.closeL ?_ (by simp [ly])
    rw [zip_app1 ly]
    refine wo2.perm ?_
    rw [List.append_assoc]
    refine List.Perm.append_left _ ?_
    show List.Perm _ ((yv, d) :: ((.ref a, .lst true []) :: ((xs.zip l).eraseIdx p ++ g)))
    refine List.Perm.trans (List.Perm.cons _ List.perm_middle) (List.Perm.swap _ _ _)
  have w5 : W G B (upd (upd H a (.lst [])) b (.lst (ys ++ [yv]))) ((.ref a, .lst true []) :: ((.ref b, .lst true (m ++ [d])) :: ((xs.zip l).eraseIdx p ++ g))) := w4.perm (List.Perm.swap _ _ _)
  obtain ⟨a', zs, e5, e6, _, wo3⟩ := w5.openL
  cases e5
  have ho' := e2
  have w6 : W G B (upd (upd (upd H a (.lst [])) b (.lst (ys ++ [yv]))) a (.lst xs)) ((.ref a, .lst true (l.set p (.lst true (m ++ [d])))) :: g) := by
    refine Wo.closeL (xs := xs) ?_ (by simp [ln])
    have hs : xs.zip (l.set p (.lst true (m ++ [d]))) = (xs.zip l).set p (.ref b, .lst true (m ++ [d])) := by
      rw [← zip_set, set_self_of hx0]
    have jl : p < (xs.zip l).length := by rw [List.length_zip, ln, Nat.min_self]; exact hp
    rw [hs]
    have z0 : ([] : List V).length = zs.length := by
      rw [upd_ne (Ne.symm hab), upd_same] at e6
      cases e6; rfl
    have zn : zs = [] := List.length_eq_zero_iff.mp z0.symm
    subst zn
    refine wo3.perm ?_
    exact ((perm_set jl).symm.append_right g)
  have eH : upd (upd (upd H a (.lst [])) b (.lst (ys ++ [yv]))) a (.lst xs) = upd H b (.lst (ys ++ [yv])) := by
    funext q
    by_cases h1 : q = a
    · rw [h1, upd_same, upd_ne (Ne.symm hab), ho']
    · rw [upd_ne h1]
      by_cases h2 : q = b
      · rw [h2, upd_same, upd_same]
      · rw [upd_ne h2, upd_ne h1, upd_ne h2]
  rw [eH] at w6
  exact ⟨a, xs, b, ys, e1, e2, hx0, hb, ly, by rw [e1]; exact w6⟩
def appLM (i k : Nat) (s : Str) : M D := fun r => match r[i]? with
  | some (some (.lst true l)) => (match l[k]? with
    | some (.lst true m) => if m.length < 10000000 then some (.ok .non (r.set i (some (.lst true (l.set k (.lst true (m ++ [.str s])))))) ) else none
    | _ => none)
  | _ => none
theorem z_appL {x s : Str} {px pk ps p2 apos cpos : Pos} {j1 j2 : Nat} (i k : Nat) (hG : c.G.K = X.K) (hN : X.N[i]? = some x := by rfl) (hv : Vis X.env.scope x := by first | exact Or.inl rfl | exact Or.inr (Or.inl rfl) | exact Or.inr (Or.inr rfl)) (hd : (x == ("__debug__" : Str)) = false := by decide)
    (hcd : (x == ("__classdict__" : Str)) = false := by decide) (hsp : PlainIx (.Constant (.int (k : Int)) j1 pk) := by intro _ _; rfl)
    (hbase : attributeBase (.Subscript (.Name x px) (.Constant (.int (k : Int)) j1 pk) p2) "append" X.env (eval (.Subscript (.Name x px) (.Constant (.int (k : Int)) j1 pk) p2) X.env) = eval (.Subscript (.Name x px) (.Constant (.int (k : Int)) j1 pk) p2) X.env := by rfl)
    (hfew : ((backTo cpos (starEach [.Constant (.str s) j2 ps] X.env)).all (fun x => !x.1) && (backToKw cpos (keywordEach [] X.env)).all (fun x => x.1.isSome)
      && decide (([.Constant (.str s) j2 ps] : List Expr).length + ([] : List Keyword).length + (if ([] : List Keyword).isEmpty then 0 else 1) < 30)) = true := by rfl)
    (hline : (apos.endLine == cpos.line) = true := by rfl) (hs : starEach [.Constant (.str s) j2 ps] X.env = (false, eval (.Constant (.str s) j2 ps) X.env) :: starEach [] X.env := by rfl) (hplain : (backTo cpos (starEach [] X.env)).any (·.1) = false := by rfl) :
    PE X (.Call (.Attribute (.Subscript (.Name x px) (.Constant (.int (k : Int)) j1 pk) p2) "append" apos) [.Constant (.str s) j2 ps] [] cpos) (tm c (appLM i k s)) :=
  pe_imp (pe_bm F.plainAttrs_list F.slot_list_append F.type_list_append mt_append (pe_ix ix_list (pe_var hN hv hd hcd) pe_int hsp) (pa_cons pe_str pa_nil) hbase hfew hline hs hplain) fun σ H Q ⟨r, e, yr, n, hx, fin⟩ => by
    unfold appLM at hx
    split at hx
    · rename_i l hi
      split at hx
      · rename_i m hm
        split at hx
        · rename_i hz
          cases hx
          obtain ⟨v0, hv0⟩ := n.al.al.has i _ hi
          have w0 : W c.G c.B H (e ++ envI σ r) := n.w
          have w1 := w0.take n.al.al hv0 hi
          have w2 : W c.G c.B H ((v0, .lst true l) :: ((V.str s, D.str s) :: (e ++ envI σ (r.set i none)))) := (w1.add (y := V.str s) (e := D.str s) (Cp.triv fun F => by simp [Tr])).perm (List.Perm.swap _ _ _)
          obtain ⟨a, xs, b, ys, u1, u2, u3, u4, u5, w5⟩ := W.innerL (g := e ++ envI σ (r.set i none)) w2 hm
          subst u1
          have at_ : atI xs (k : Int) = some (.ref b) := by
            unfold atI ixN
            have hk : k < xs.length := (List.getElem?_eq_some_iff.mp u3).1
            rw [if_pos (by omega), if_pos (by omega)]
            exact u3
          refine ⟨_, hv0, a, xs, (k : Int), .ref b, rfl, rfl, SqL.of u2, at_, .inl ⟨rfl, ys, SqL.of u4⟩, b, ys, .str s, rfl, rfl, u4, by rw [u5]; exact Nat.lt_of_lt_of_le hz (lim_ok (Nat.le_refl _)), ?_⟩
          have il : i < (r.set i none).length := by rw [List.length_set]; exact (List.getElem?_eq_some_iff.mp hi).1
          have w6 := w5.put (n.al.al.setR (y := none) fun z => by simp at z) il
          rw [set_self_of hv0, List.set_set] at w6
          exact fin .non _ (n.al.setR hv0) (w6.add (Cp.triv fun F => by simp [Tr]))
        · cases hx
      · cases hx
    · cases hx
end Z

set_option Elab.async false
set_option linter.all false
set_option maxRecDepth 100000
set_option maxHeartbeats 400000
/-! ZS: how the combinators are reckoned. -/
namespace Z
open PySem
variable {r : Rho}
@[simp] theorem e_ret {α : Type} (a : α) : ret a r = some (.ok a r) := rfl
@[simp] theorem e_bnd {α β : Type} (m : M α) (f : α → M β) : bnd m f r = (match m r with
  | some (.ok a r') => f a r'
  | some (.exc C ns ds r') => some (.exc C ns ds r')
  | none => none) := rfl
@[simp] theorem e_bndS {α : Type} (m : M α) (f : α → MS) : bndS m f r = (match m r with
  | some (.ok a r1) => f a r1
  | some (.exc C ns ds r1) => some (.exc C ns ds r1)
  | none => none) := rfl
@[simp] theorem e_seqS (a b : MS) : seqS a b r = (match a r with
  | some (.nx r1) => b r1
  | x => x) := rfl
@[simp] theorem e_nxS : nxS r = some (.nx r) := rfl
@[simp] theorem e_nevS : nevS r = none := rfl
@[simp] theorem e_op1 (k f a) : op1 k f a r = bnd a (fun o => opc k f [o]) r := rfl
@[simp] theorem e_op2 (k f a b) : op2 k f a b r = bnd a (fun o => bnd b fun o' => opc k f [o, o']) r := rfl
@[simp] theorem e_op3 (k f a b d) : op3 k f a b d r = bnd a (fun o => bnd b fun o' => bnd d fun o'' => opc k f [o, o', o'']) r := rfl
@[simp] theorem e_opN (k f as) : opN k f as r = bnd as (fun os => opc k f os) r := rfl
@[simp] theorem e_opM (T k f a as) : opM T k f a as r = bnd a (fun o r => match opdD r o with
  | some d => if tyOk T d = true then bnd as (fun os => opc k f (o :: os)) r else none
  | none => none) r := rfl
@[simp] theorem e_mT (m : M D) : mT m r = bnd m (fun d => ret (.t d)) r := rfl
@[simp] theorem e_mK (m : M D) : mK m r = bnd m (fun d => ret (.t (knT d))) r := rfl
@[simp] theorem e_consM (m ms) : consM m ms r = bnd m (fun o => bnd ms fun os => ret (o :: os)) r := rfl
@[simp] theorem e_slotO (k i) : slotO k i r = (match r[i]? with
  | some (some d) => if (!k || kn d) = true then some (.ok (.v i) r) else some (.ok (.v i) (r.set i (some (freeze d))))
  | _ => none) := rfl
@[simp] theorem e_slotE (i) : slotE i r = (match r[i]? with
  | some (some d) => if noOwn d = true then some (.ok d r) else some (.ok (freeze d) (r.set i (some (freeze d))))
  | _ => none) := rfl
@[simp] theorem e_opc (kids f os) : opc kids f os r = (match opdDs r os with
  | some ds => if (!kids || ds.all kn) = true then (match f ds with
    | some d => some (.ok d r)
    | none => none) else none
  | none => none) := rfl
@[simp] theorem e_opdDs0 : opdDs r [] = some [] := rfl
@[simp] theorem e_opdDs1 (o os) : opdDs r (o :: os) = (match opdD r o, opdDs r os with
    | some d, some ds => some (d :: ds)
    | _, _ => none) := rfl
@[simp] theorem e_opdt (d) : opdD r (.t d) = some d := rfl
@[simp] theorem e_opdv (i) : opdD r (.v i) = (r[i]?).join := rfl
@[simp] theorem e_ifM {α : Type} (t : M D) (a b : M α) : ifM t a b r = bnd t (fun d => match d with
  | .bl true => a
  | .bl false => b
  | _ => fun _ => none) r := rfl
@[simp] theorem e_andM (a b) : andM a b r = ifM a b (ret (.bl false)) r := rfl
@[simp] theorem e_orM (a b) : orM a b r = ifM a (ret (.bl true)) b r := rfl
@[simp] theorem e_notM (a) : notM a r = ifM a (ret (.bl false)) (ret (.bl true)) r := rfl
@[simp] theorem e_tds0 : tds [] = some [] := rfl
@[simp] theorem e_tds1 (d os) : tds (.t d :: os) = (tds os).map (d :: ·) := rfl
@[simp] theorem e_tupM (ms) : tupM ms r = bnd ms (fun os r => match tds os with
  | some ds => if ds.length ≤ 10000000 then some (.ok (.tup ds) r) else none
  | none => none) r := rfl
@[simp] theorem e_lstM (ms) : lstM ms r = bnd ms (fun os r => match tds os with
  | some ds => if ds.length ≤ 10000000 then some (.ok (.lst true ds) r) else none
  | none => none) r := rfl
@[simp] theorem e_noB : noB r = some (.ok (.t .non) r) := rfl
@[simp] theorem e_intB (m) : intB m r = bnd m (fun o r => match opdD r o with
  | some (.int i) => some (.ok (.t (.int i)) r)
  | _ => none) r := rfl
@[simp] theorem e_call0 (φ ms) : call0 φ ms r = bnd ms (fun os r => match opdDs r os with
  | some ds => (match φ (ds.map freeze) with
    | some (.ok d []) => if (allOwn d || frzOk r os) = true then some (.ok d r) else none
    | _ => none)
  | none => none) r := rfl
@[simp] theorem e_cax0 (φ ms) : cax0 φ ms r = bnd ms (fun os r => match opdDs r os with
  | some ds => (match φ (ds.map freeze) with
    | some (.ok d []) => if (allOwn d || frzOk r os) = true then some (.ok d r) else none
    | some (.exc C ns es []) => if (allOwns es || frzOk r os) = true then some (.exc C ns es r) else none
    | _ => none)
  | none => none) r := rfl
@[simp] theorem e_callK {ix : List Nat} {φ : List D → Option FR} {ms : M (List Opd)} : callK ix φ ms r = bnd ms (fun os r => match opdDs r os with
  | some ds => (match φ ((pm ix ds).map freeze) with
    | some (.ok d []) => if (allOwn d || frzOk r os) = true then some (.ok d r) else none
    | _ => none)
  | none => none) r := rfl
@[simp] theorem e_appLM (i k s) : appLM i k s r = (match r[i]? with
  | some (some (.lst true l)) => (match l[k]? with
    | some (.lst true m) => if m.length < 10000000 then some (.ok .non (r.set i (some (.lst true (l.set k (.lst true (m ++ [.str s])))))) ) else none
    | _ => none)
  | _ => none) := rfl
@[simp] theorem e_caxK {ix : List Nat} {φ : List D → Option FR} {ms : M (List Opd)} : caxK ix φ ms r = bnd ms (fun os r => match opdDs r os with
  | some ds => (match φ ((pm ix ds).map freeze) with
    | some (.ok d []) => if (allOwn d || frzOk r os) = true then some (.ok d r) else none
    | some (.exc C ns es []) => if (allOwns es || frzOk r os) = true then some (.exc C ns es r) else none
    | _ => none)
  | none => none) r := rfl
@[simp] theorem e_raiseS (C f m) : raiseS C f m r = bndS m (fun d r => some (.exc C [f] [d] r)) r := rfl
@[simp] theorem e_tryS (Kn Cs i j b) : tryS Kn Cs i j b r = (match b r with
  | some (.exc C ns ds r1) => if C ∈ Kn then (if C ∈ Cs then (if ns.length = ds.length ∧ i < r1.length ∧ j < r1.length ∧ i ≠ j then some (.nx ((r1.set j (some (.xcp C ns ds))).set i none)) else none) else some (.exc C ns ds r1)) else none
  | x => x) := rfl
@[simp] theorem e_fldM (k f m) : fldM k f m r = bnd m (fun d r => match d with
  | .xcp C ns l => if C ∈ k.Kn then (match fldOf f ns l with
    | some e => if noOwn e = true then some (.ok e r) else none
    | none => none) else none
  | _ => none) r := rfl
@[simp] theorem e_lamM (told is b) : lamM told is b r = (match slotsD r is with
  | some ds => (match b r with
    | some (.ok d r1) => (told ds (.ok d [])).map fun d2 => .ok d2 r1
    | some (.exc C ns es r1) => (told ds (.exc C ns es [])).map fun d2 => .ok d2 r1
    | none => none)
  | none => none) := rfl
@[simp] theorem e_lamF (told is b) : lamF told is b r = lamM told is b (fzSl r is) := rfl
@[simp] theorem e_fzSl0 : fzSl r [] = r := rfl
@[simp] theorem e_fzSl1 (i is) : fzSl r (i :: is) = fzSl (match r[i]? with
    | some (some d) => r.set i (some (freeze d))
    | _ => r) is := rfl
@[simp] theorem e_slotsD0 : slotsD r [] = some [] := rfl
@[simp] theorem e_slotsD1 (i is) : slotsD r (i :: is) = (match r[i]?, slotsD r is with
  | some (some d), some ds => if noOwn d = true then some (d :: ds) else none
  | _, _ => none) := rfl
@[simp] theorem e_call1 (φ ms) : call1 φ ms r = bnd ms (fun os r => match os with
  | .v j :: os => (if os.all (fun o => match o with | .v i => i != j | _ => true) = true then (match r[j]?, opdDs r os with
    | some (some d0), some ds => (match φ (d0 :: ds.map freeze) with
      | some (.ok d [d1]) => if ((allOwn d && allOwn d1) || frzOk r os) = true then some (.ok d (r.set j (some d1))) else none
      | _ => none)
    | _, _ => none) else none)
  | _ => none) r := rfl
@[simp] theorem e_frz0 : frzOk r [] = true := rfl
@[simp] theorem e_frzt (d os) : frzOk r (.t d :: os) = frzOk r os := rfl
@[simp] theorem e_frzv (i os) : frzOk r (.v i :: os) = ((match r[i]? with | some (some d) => noOwn d | _ => false) && frzOk r os) := rfl
@[simp] theorem e_ifS (t a b) : ifS t a b r = bndS t (fun d => match d with
  | .bl true => a
  | .bl false => b
  | _ => fun _ => none) r := rfl
@[simp] theorem e_retS (m) : retS m r = bndS m (fun d r => some (.rt d r)) r := rfl
@[simp] theorem e_retV (i) : retV i r = (match r[i]? with
  | some (some d) => some (.rt d (r.set i none))
  | _ => none) := rfl
@[simp] theorem e_exS (m) : exS m r = bndS m (fun _ r => some (.nx r)) r := rfl
@[simp] theorem e_setS (i m) : setS i m r = bndS m (fun d r => if i < r.length then some (.nx (r.set i (some d))) else none) r := rfl
@[simp] theorem e_asgS (m g) : asgS m g r = bndS m (fun d r => (g d r).map Out.nx) r := rfl
@[simp] theorem e_par2 (i j ms) : par2 i j ms r = bndS ms (fun os r => match tds os with
  | some [d1, d2] => if i < r.length ∧ j < r.length then some (.nx ((r.set i (some d1)).set j (some d2))) else none
  | _ => none) r := rfl
@[simp] theorem e_par3 (i j k ms) : par3 i j k ms r = bndS ms (fun os r => match tds os with
  | some [d1, d2, d3] => if i < r.length ∧ j < r.length ∧ k < r.length then some (.nx (((r.set i (some d1)).set j (some d2)).set k (some d3))) else none
  | _ => none) r := rfl
@[simp] theorem e_nameT (i d) : nameT i d r = if i < r.length then some (r.set i (some d)) else none := rfl
@[simp] theorem e_nilT : nilT [] r = some r := rfl
@[simp] theorem e_consT (g gs d ds) : consT g gs (d :: ds) r = (g d r).bind (gs ds) := rfl
@[simp] theorem e_tupT (gs l) : tupT gs (.tup l) r = gs l r := rfl
@[simp] theorem e_subT (i mi d) : subT i mi d r = (match r[i]? with
  | some (some _) => (match mi r with
    | some (.ok o r1) => (match r1[i]?, opdD r1 o with
      | some (some (.lst true l)), some (.int k) => (match L2.ixN l.length k with
        | some j => if j < l.length then some (r1.set i (some (.lst true (l.set j d)))) else none
        | none => none)
      | _, _ => none)
    | _ => none)
  | _ => none) := rfl
@[simp] theorem e_appM (i ms) : appM i ms r = (match r[i]? with
  | some (some d0) => if isLst d0 = true then bnd ms (fun os r => match tds os, r[i]? with
    | some [d], some (some (.lst true l)) => if l.length < 10000000 then some (.ok .non (r.set i (some (.lst true (l ++ [d]))))) else none
    | _, _ => none) r else none
  | _ => none) := rfl
def srcD (d : D) : Option (List D) := match knT d with
  | .lst o l => if noOwns l = true then some l else none
  | .tup l => if noOwns l = true then some l else none
  | .str z => some (z.cps.toList.map fun c => .str ⟨#[c]⟩)
  | _ => none
@[simp] theorem e_srcSeq (m) : srcSeq m r = bnd m (fun d r => match srcD d with
  | some l => some (.ok ([knT d], l) r)
  | none => none) r := by
  unfold srcSeq bnd
  cases m r with
  | none => rfl
  | some x =>
    cases x with
    | exc C ns ds r1 => rfl
    | ok d r1 =>
      show (match knT d with
        | .lst o l => if noOwns l = true then some (R.ok (([.lst o l], l) : Src) r1) else none
        | .tup l => if noOwns l = true then some (.ok ([.tup l], l) r1) else none
        | .str z => some (.ok ([.str z], z.cps.toList.map fun c => .str ⟨#[c]⟩) r1)
        | _ => none) = (match srcD d with
        | some l => some (R.ok (([knT d], l) : Src) r1)
        | none => none)
      unfold srcD
      generalize knT d = k
      cases k with
      | lst o l => cases q : noOwns l <;> simp [q]
      | tup l => cases q : noOwns l <;> simp [q]
      | _ => rfl
theorem srcD_tup {l : List D} (h : noOwns l = true) : srcD (.tup l) = some l := by
  unfold srcD
  rw [show knT (.tup l) = .tup l by unfold knT; rw [if_pos (show kn (.tup l) = true from h)]]
  simp [h]
theorem srcD_lst {o : Bool} {l : List D} (h : noOwns l = true) : srcD (.lst o l) = some l := by
  unfold srcD
  rw [show knT (.lst o l) = .lst o l by unfold knT; rw [if_pos (show kn (.lst o l) = true from h)]]
  simp [h]
@[simp] theorem e_srcR1 (ms) : srcR1 ms r = bnd ms (fun os r => match opdDs r os with
  | some [.int j] => if -(2 ^ 62) ≤ j ∧ j < 2 ^ 62 then some (.ok ([], (List.range j.toNat).map fun i : Nat => D.int (0 + (i : Int))) r) else none
  | _ => none) r := rfl
@[simp] theorem e_forS (src g b) : forS src g b r = bndS src (fun p => forL g b p.2) r := rfl
@[simp] theorem e_forL0 (g b) : forL g b [] r = some (.nx r) := rfl
@[simp] theorem e_lcM (vs src g t m) : lcM vs src g t m r = bnd src (fun p r => match lcL vs g t m p.2 (wipeR r vs) with
  | some (xs, r1) => if p.2.length ≤ 10000000 then some (.ok (.lst true xs) r1) else none
  | none => none) r := rfl
@[simp] theorem e_yesM : yesM r = some (.ok (.bl true) r) := rfl
@[simp] theorem e_wipe0 : wipeR r [] = r := rfl
@[simp] theorem e_wipe1 (v vs) : wipeR r (v :: vs) = (wipeR r vs).set v none := rfl
@[simp] theorem e_opts0 : opts [] = some [] := rfl
@[simp] theorem e_opts1 (d l) : opts (some d :: l) = (opts l).map (d :: ·) := rfl
/-- a comprehension without a test whose turns leave the names as they are -/
theorem lcL_map {vs : List Nat} {g : MT} {m : M D} {r : Rho} {f : D → D} : ∀ {ds : List D}, (∀ d ∈ ds, ∃ r1 r2, g d r = some r1 ∧ m r1 = some (.ok (f d) r2) ∧ wipeR r2 vs = r) → lcL vs g yesM m ds r = some (ds.map f, r)
  | [], _ => rfl
  | d :: ds, h => by
    obtain ⟨r1, r2, h1, h2, h3⟩ := h d List.mem_cons_self
    have ih := lcL_map (ds := ds) fun x hx => h x (List.mem_cons_of_mem _ hx)
    simp only [lcL, h1, e_yesM, h2, h3, ih, List.map_cons]
/-- .. with a test -/
theorem lcL_filter {vs : List Nat} {g : MT} {t m : M D} {r : Rho} {p : D → Bool} {f : D → D} : ∀ {ds : List D}, (∀ d ∈ ds, ∃ r1 r2, g d r = some r1 ∧ t r1 = some (.ok (.bl (p d)) r2) ∧ wipeR r2 vs = r ∧ (p d = true → ∃ r3, m r2 = some (.ok (f d) r3) ∧ wipeR r3 vs = r)) → lcL vs g t m ds r = some ((ds.filter p).map f, r)
  | [], _ => rfl
  | d :: ds, h => by
    obtain ⟨r1, r2, h1, h2, h3, h4⟩ := h d List.mem_cons_self
    have ih := lcL_filter (ds := ds) fun x hx => h x (List.mem_cons_of_mem _ hx)
    cases q : p d with
    | true =>
      obtain ⟨r3, h5, h6⟩ := h4 q
      rw [q] at h2
      simp only [lcL, h1, h2, h5, h6, ih, List.filter_cons, q, if_true, List.map_cons]
    | false =>
      rw [q] at h2
      simp only [lcL, h1, h2, h3, ih, List.filter_cons, q]
      rfl
/-- a loop that goes on to its end, by a state -/
theorem forL_fold {α : Type} {g : MT} {b : MS} (S : α → Rho) (step : α → D → α) : ∀ {ds : List D} {a : α}, (∀ a, ∀ d ∈ ds, ∃ r1, g d (S a) = some r1 ∧ b r1 = some (.nx (S (step a d)))) → forL g b ds (S a) = some (.nx (S (ds.foldl step a)))
  | [], _, _ => rfl
  | d :: ds, a, h => by
    obtain ⟨r1, h1, h2⟩ := h a d List.mem_cons_self
    have ih := forL_fold S step (ds := ds) (a := step a d) fun a x hx => h a x (List.mem_cons_of_mem _ hx)
    simp only [forL, h1, h2, ih, List.foldl_cons]
@[simp] theorem kn_int (i : Int) : kn (.int i) = true := rfl
@[simp] theorem kn_str (i : Str) : kn (.str i) = true := rfl
@[simp] theorem kn_bl (i : Bool) : kn (.bl i) = true := rfl
@[simp] theorem kn_non : kn .non = true := rfl
@[simp] theorem kn_ty (i : String) : kn (.ty i) = true := rfl
@[simp] theorem kn_scr (i : List Int) : kn (.scr i) = true := rfl
@[simp] theorem kn_tup (l : List D) : kn (.tup l) = noOwns l := rfl
@[simp] theorem kn_lst (o : Bool) (l : List D) : kn (.lst o l) = noOwns l := rfl
@[simp] theorem no_int (i : Int) : noOwn (.int i) = true := rfl
@[simp] theorem no_str (i : Str) : noOwn (.str i) = true := rfl
@[simp] theorem no_bl (i : Bool) : noOwn (.bl i) = true := rfl
@[simp] theorem no_non : noOwn .non = true := rfl
@[simp] theorem no_ty (i : String) : noOwn (.ty i) = true := rfl
@[simp] theorem no_scr (i : List Int) : noOwn (.scr i) = true := rfl
@[simp] theorem no_tup (l : List D) : noOwn (.tup l) = noOwns l := rfl
@[simp] theorem no_lst (o : Bool) (l : List D) : noOwn (.lst o l) = (!o && noOwns l) := rfl
@[simp] theorem nos_nil : noOwns [] = true := rfl
@[simp] theorem nos_cons (d : D) (l : List D) : noOwns (d :: l) = (noOwn d && noOwns l) := rfl
@[simp] theorem ao_int (i : Int) : allOwn (.int i) = true := rfl
@[simp] theorem ao_str (i : Str) : allOwn (.str i) = true := rfl
@[simp] theorem ao_bl (i : Bool) : allOwn (.bl i) = true := rfl
@[simp] theorem ao_non : allOwn .non = true := rfl
@[simp] theorem ao_tup (l : List D) : allOwn (.tup l) = allOwns l := rfl
@[simp] theorem ao_lst (o : Bool) (l : List D) : allOwn (.lst o l) = (o && allOwns l) := rfl
@[simp] theorem aos_nil : allOwns [] = true := rfl
@[simp] theorem aos_cons (d : D) (l : List D) : allOwns (d :: l) = (allOwn d && allOwns l) := rfl
@[simp] theorem fz_int (i : Int) : freeze (.int i) = .int i := rfl
@[simp] theorem fz_str (i : Str) : freeze (.str i) = .str i := rfl
@[simp] theorem fz_bl (i : Bool) : freeze (.bl i) = .bl i := rfl
@[simp] theorem fz_non : freeze .non = .non := rfl
@[simp] theorem fz_scr (i : List Int) : freeze (.scr i) = .scr i := rfl
@[simp] theorem fz_tup (l : List D) : freeze (.tup l) = .tup (freezes l) := rfl
@[simp] theorem fz_lst (o : Bool) (l : List D) : freeze (.lst o l) = .lst false (freezes l) := rfl
@[simp] theorem fzs_nil : freezes [] = [] := rfl
@[simp] theorem fzs_cons (d : D) (l : List D) : freezes (d :: l) = freeze d :: freezes l := rfl
theorem knT_of {d : D} (h : kn d = true) : knT d = d := by unfold knT; rw [if_pos h]
@[simp] theorem knT_int (i : Int) : knT (.int i) = .int i := rfl
@[simp] theorem knT_str (i : Str) : knT (.str i) = .str i := rfl
@[simp] theorem knT_bl (i : Bool) : knT (.bl i) = .bl i := rfl
@[simp] theorem knT_tup {l : List D} (h : noOwns l = true) : knT (.tup l) = .tup l := knT_of h
@[simp] theorem knT_lst {o : Bool} {l : List D} (h : noOwns l = true) : knT (.lst o l) = .lst o l := knT_of h
@[simp] theorem tyOk_str (z : Str) : tyOk "str" (.str z) = true := rfl
@[simp] theorem tyOk_lst (o : Bool) (l : List D) : tyOk "list" (.lst o l) = true := rfl
@[simp] theorem isLst_lst (o : Bool) (l : List D) : isLst (.lst o l) = true := rfl
@[simp] theorem x_list0 (l : List D) : idxS [.tup l, .int 0] = l[0]? := by
  cases l <;> simp [idxS, L2.atI, L2.ixN]
/-! names' data -/
def nmD (l : List Str) : D := .tup (l.map .str)
theorem noOwns_str (l : List Str) : noOwns (l.map .str) = true := by
  induction l with
  | nil => rfl
  | cons a l ih => simp [noOwns, noOwn, ih]
@[simp] theorem noOwn_nm (l : List Str) : noOwn (nmD l) = true := noOwns_str l
@[simp] theorem kn_nm (l : List Str) : kn (nmD l) = true := noOwns_str l
@[simp] theorem noOwns_nms (l : List (List Str)) : noOwns (l.map nmD) = true := by
  induction l with
  | nil => rfl
  | cons a l ih => simp [noOwns, ih]
def saD (p : Str × Str) : D := .tup [.str p.1, .str p.2]
def stD (ls : List (List Str)) : D := .tup (ls.map nmD)
def trD (ns : List Str) (ties : List (Str × Str)) : D := .tup [nmD ns, .tup (ties.map saD)]
def rwD (o : Bool) (l : List (Str × Str)) : D := .lst o (l.map saD)
@[simp] theorem noOwns_strs (l : List Str) : noOwns (l.map .str) = true := noOwns_str l
@[simp] theorem noOwn_sa (p : Str × Str) : noOwn (saD p) = true := rfl
@[simp] theorem noOwns_sas (l : List (Str × Str)) : noOwns (l.map saD) = true := by
  induction l with
  | nil => rfl
  | cons a l ih => simp [noOwns, ih]
@[simp] theorem noOwn_st (l : List (List Str)) : noOwn (stD l) = true := noOwns_nms l
@[simp] theorem noOwn_tr (ns : List Str) (l : List (Str × Str)) : noOwn (trD ns l) = true := by simp [trD, noOwn, noOwns]
theorem kn_of {d : D} (h : noOwn d = true) : kn d = true := by
  cases d with
  | lst o l => simp [noOwn] at h; exact h.2
  | dct o ks l => simp [noOwn] at h; exact h.2
  | ins o C ns l => simp [noOwn] at h; exact h.2
  | tup l => exact h
  | _ => rfl
@[simp] theorem kn_st (l : List (List Str)) : kn (stD l) = true := kn_of (by simp)
@[simp] theorem kn_tr (ns : List Str) (l : List (Str × Str)) : kn (trD ns l) = true := kn_of (by simp)
@[simp] theorem kn_sa (p : Str × Str) : kn (saD p) = true := rfl
@[simp] theorem kn_rw (o : Bool) (l : List (Str × Str)) : kn (rwD o l) = true := noOwns_sas l
@[simp] theorem freeze_nm (l : List Str) : freeze (nmD l) = nmD l := freeze_noOwn _ (by simp)
@[simp] theorem freeze_st (l : List (List Str)) : freeze (stD l) = stD l := freeze_noOwn _ (by simp)
@[simp] theorem freeze_tr (ns : List Str) (l : List (Str × Str)) : freeze (trD ns l) = trD ns l := freeze_noOwn _ (by simp)
@[simp] theorem freeze_sa (p : Str × Str) : freeze (saD p) = saD p := rfl
@[simp] theorem freeze_rw (o : Bool) (l : List (Str × Str)) : freeze (rwD o l) = rwD false l := by
  simp only [rwD, freeze]
  rw [freezes_noOwn _ (noOwns_sas l)]
@[simp] theorem freeze_str (s : Str) : freeze (.str s) = .str s := rfl
@[simp] theorem freeze_int (s : Int) : freeze (.int s) = .int s := rfl
@[simp] theorem allOwn_nm (l : List Str) : allOwn (nmD l) = true := by
  show allOwns (l.map .str) = true
  induction l with
  | nil => rfl
  | cons a l ih => simp [allOwns, allOwn, ih]
@[simp] theorem allOwn_st (l : List (List Str)) : allOwn (stD l) = true := by
  show allOwns (l.map nmD) = true
  induction l with
  | nil => rfl
  | cons a l ih => simp [allOwns, ih]
@[simp] theorem strsD_str (l : List Str) : strsD (l.map .str) = some l := by
  induction l with
  | nil => rfl
  | cons a l ih => simp [strsD, ih]
@[simp] theorem srcD_nm (l : List Str) : srcD (nmD l) = some (l.map .str) := srcD_tup (by simp)
@[simp] theorem srcD_st (l : List (List Str)) : srcD (stD l) = some (l.map nmD) := srcD_tup (by simp)
@[simp] theorem srcD_rw (o : Bool) (l : List (Str × Str)) : srcD (rwD o l) = some (l.map saD) := srcD_lst (by simp)
@[simp] theorem srcD_sas (l : List (Str × Str)) : srcD (.tup (l.map saD)) = some (l.map saD) := srcD_tup (by simp)
@[simp] theorem tupT_sa (gs) (p : Str × Str) : tupT gs (saD p) r = gs [.str p.1, .str p.2] r := rfl
theorem atI_nat {α : Type} (l : List α) (i : Nat) : L2.atI l (i : Int) = l[i]? := by
  unfold L2.atI L2.ixN
  rw [if_pos (by omega)]
  by_cases h : i < l.length
  · rw [if_pos (by omega)]; rfl
  · rw [if_neg (by omega), List.getElem?_eq_none (by omega)]; rfl
@[simp] theorem idx_st (l : List (List Str)) (i : Nat) : idxS [stD l, .int (i : Int)] = (l[i]?).map nmD := by
  show L2.atI (l.map nmD) _ = _
  rw [atI_nat, List.getElem?_map]
@[simp] theorem idx_nm (l : List Str) (i : Nat) : idxS [nmD l, .int (i : Int)] = (l[i]?).map D.str := by
  show L2.atI (l.map D.str) _ = _
  rw [atI_nat, List.getElem?_map]
@[simp] theorem idx_lst (o : Bool) (l : List D) (i : Nat) : idxS [.lst o l, .int (i : Int)] = l[i]? := by
  show L2.atI l _ = _
  rw [atI_nat]
@[simp] theorem idx_tup (l : List D) (i : Nat) : idxS [.tup l, .int (i : Int)] = l[i]? := by
  show L2.atI l _ = _
  rw [atI_nat]
@[simp] theorem e_srcEn (ms) : srcEn ms r = bnd ms (fun os r => match tds os with
  | some [.lst o l] => if noOwns l = true then some (.ok ([.lst o l], enumD 0 l) r) else none
  | some [.tup l] => if noOwns l = true then some (.ok ([.tup l], enumD 0 l) r) else none
  | _ => none) r := rfl
@[simp] theorem e_srcZip (ms) : srcZip ms r = bnd ms (fun os r => match tds os with
  | some [.lst o l, .lst o' l'] => if (noOwns l && noOwns l') = true then some (.ok ([.lst o l, .lst o' l'], List.zipWith (fun x y => .tup [x, y]) l l') r) else none
  | some [.tup l, .tup l'] => if (noOwns l && noOwns l') = true then some (.ok ([.tup l, .tup l'], List.zipWith (fun x y => .tup [x, y]) l l') r) else none
  | _ => none) r := rfl
@[simp] theorem pow7 : powS [.int 10, .int 7] = some (.int 10000000) := rfl
@[simp] theorem pow18 : powS [.int 10, .int 18] = some (.int 1000000000000000000) := rfl
@[simp] theorem pow12 : powS [.int 10, .int 12] = some (.int 1000000000000) := rfl
@[simp] theorem add_int (i j : Int) : addS [.int i, .int j] = some (.int (i + j)) := rfl
@[simp] theorem sub_int (i j : Int) : subS [.int i, .int j] = some (.int (i - j)) := rfl
@[simp] theorem gt_int (i j : Int) : gtS [.int i, .int j] = some (.bl (decide (j < i))) := rfl
@[simp] theorem lt_int (i j : Int) : ltS [.int i, .int j] = some (.bl (decide (i < j))) := rfl
@[simp] theorem le_int (i j : Int) : leS [.int i, .int j] = some (.bl (!decide (j < i))) := rfl
@[simp] theorem ge_int (i j : Int) : geS [.int i, .int j] = some (.bl (!decide (i < j))) := rfl
@[simp] theorem eq_int (i j : Int) : eqS [.int i, .int j] = some (.bl (i == j)) := rfl
@[simp] theorem ne_int (i j : Int) : neS [.int i, .int j] = some (.bl (!(i == j))) := rfl
@[simp] theorem abs_int (i : Int) : absS [.int i] = some (.int (if i < 0 then -i else i)) := rfl
@[simp] theorem int_bl (b : Bool) : intS [.bl b] = some (.int (if b then 1 else 0)) := rfl
theorem mul_int {i j : Int} (h : i.natAbs < 18446744073709551616 ∨ j.natAbs < 18446744073709551616) : mulS [.int i, .int j] = some (.int (i * j)) := by simp only [mulS, if_pos h]
theorem mod_int {i j : Int} (h : 0 < j) : modS [.int i, .int j] = some (.int (i % j)) := by simp only [modS, if_pos h]
theorem fdiv_int {i j : Int} (h : 0 < j ∧ j < 1073741824) : fdivS [.int i, .int j] = some (.int (i / j)) := by simp only [fdivS, if_pos h]
theorem divmod_int {i j : Int} (h : 0 < j ∧ j < 1073741824) : divmodS [.int i, .int j] = some (.tup [.int (i / j), .int (i % j)]) := by simp only [divmodS, if_pos h]
theorem idx_l0 (o : Bool) (a : D) (l : List D) : idxS [.lst o (a :: l), .int 0] = some a := by
  have := idx_lst o (a :: l) 0
  simpa using this
theorem idx_l1 (o : Bool) (a b : D) (l : List D) : idxS [.lst o (a :: b :: l), .int 1] = some b := by
  have := idx_lst o (a :: b :: l) 1
  simpa using this
theorem idx_l2 (o : Bool) (a b c : D) (l : List D) : idxS [.lst o (a :: b :: c :: l), .int 2] = some c := by
  have := idx_lst o (a :: b :: c :: l) 2
  simpa using this
end Z

set_option Elab.async false
set_option linter.all false
set_option maxRecDepth 100000
set_option maxHeartbeats 400000
namespace Z
open PySem
def xk : XK_ := { Kn := ["NoName", "NoTie"], Bt := ["LookupError"], bs := fun C => if C = "NoTie" then ["LookupError"] else if C = "NoName" then ["LookupError"] else [] }
/-! is_tied: 0=tree 1=one 2=other 3=tie -/
def mis_tied : MS := (retS (op2 false (inS false) (mT (tupM (consM (mT (opN false min2S (consM (slotO false 1) (consM (slotO false 2) (ret []))))) (consM (mT (opN false max2S (consM (slotO false 1) (consM (slotO false 2) (ret []))))) (ret []))))) (mT (lcM [3] (srcSeq (op2 true idxS (slotO true 0) (mK (ret (.int 1))))) (nameT 3) yesM (opN true tupleS (consM (slotO true 3) (ret [])))))))
def fis_tied : List D → Option FR := run 4 3 0 mis_tied
/-! as_stand: 0=stand 1=part -/
def mas_stand : MS := (retS (opN true tupleS (consM (mK (lcM [1] (srcSeq (slotE 0)) (nameT 1) yesM (opN true tupleS (consM (slotO true 1) (ret []))))) (ret []))))
def fas_stand : List D → Option FR := run 2 1 0 mas_stand
/-! place_of: 0=tree 1=name -/
def mplace_of : MS := (retS (opM "list" false indexS (mT (opN true listS (consM (mK (op2 true idxS (slotO true 0) (mK (ret (.int 0))))) (ret [])))) (consM (slotO false 1) (ret []))))
def fplace_of : List D → Option FR := run 2 2 0 mplace_of
/-! look_saying: 0=tree 1=saying 2=teller 3=hearer -/
def mlook_saying : MS := (seqS (asgS (slotE 1) (tupT (consT (nameT 2) (consT (nameT 3) nilT))))
    (ifS (notM (call0 fis_tied (consM (slotO false 0) (consM (slotO false 2) (consM (slotO false 3) (ret [])))))) (raiseS "NoTie" "saying" (slotE 1)) nxS))
def flook_saying : List D → Option FR := run 4 2 0 mlook_saying
/-! joined: 0=one 1=other 2=found 3=word -/
def mjoined : MS := (seqS (setS 2 (opN true listS (consM (slotO true 0) (ret []))))
    (seqS (forS (srcSeq (slotE 1)) (nameT 3) (ifS (op2 false (inS true) (slotO false 3) (slotO false 2)) (exS (appM 2 (consM (mT (slotE 3)) (ret [])))) nxS))
    (retS (opN true tupleS (consM (slotO true 2) (ret []))))))
def fjoined : List D → Option FR := run 4 2 0 mjoined
/-! heard: 0=tree 1=lists 2=saying 3=teller 4=hearer 5=spot 6=found -/
def mheard : MS := (seqS (exS (cax0 flook_saying (consM (slotO false 0) (consM (slotO false 2) (ret [])))))
    (seqS (asgS (slotE 2) (tupT (consT (nameT 3) (consT (nameT 4) nilT))))
    (seqS (par2 5 6 (consM (mT (call0 fplace_of (consM (slotO false 0) (consM (slotO false 4) (ret []))))) (consM (mT (opN true listS (consM (mK (call0 fas_stand (consM (slotO false 1) (ret [])))) (ret [])))) (ret []))))
    (seqS (asgS (call0 fjoined (consM (mT (op2 true idxS (slotO true 6) (slotO true 5))) (consM (mT (op2 true idxS (slotO true 6) (mK (call0 fplace_of (consM (slotO false 0) (consM (slotO false 3) (ret []))))))) (ret [])))) (subT 6 (slotO false 5)))
    (retS (opN true tupleS (consM (slotO true 6) (ret []))))))))
def fheard : List D → Option FR := run 7 3 0 mheard
/-! done: 0=tree 1=stand 2=row 3=here 4=saying -/
def mdone : MS := (seqS (setS 3 (call0 fas_stand (consM (slotO false 1) (ret []))))
    (seqS (forS (srcSeq (slotE 2)) (nameT 4) (setS 3 (cax0 fheard (consM (slotO false 0) (consM (slotO false 3) (consM (slotO false 4) (ret [])))))))
    (retV 3)))
def fdone : List D → Option FR := run 5 3 0 mdone
/-! idle_in: 0=tree 1=stand 2=row 3=here 4=found 5=place 6=saying 7=later -/
def midle_in : MS := (seqS (par2 3 4 (consM (mT (call0 fas_stand (consM (slotO false 1) (ret [])))) (consM (mT (lstM (ret []))) (ret []))))
    (seqS (forS (srcEn (consM (mK (slotE 2)) (ret []))) (tupT (consT (nameT 5) (consT (nameT 6) nilT))) (seqS (setS 7 (cax0 fheard (consM (slotO false 0) (consM (slotO false 3) (consM (slotO false 6) (ret []))))))
    (seqS (ifS (op2 false eqS (slotO false 7) (slotO false 3)) (exS (appM 4 (consM (mT (slotE 5)) (ret [])))) nxS)
    (setS 3 (slotE 7)))))
    (retV 4)))
def fidle_in : List D → Option FR := run 8 3 0 midle_in
/-! _law_box: 0=_law_script 1=_law_k 2=_law_cell -/
def m_law_box : MS := (seqS (setS 2 (ifM (op2 false ltS (slotO false 1) (mT (opN false lenS (consM (slotO false 0) (ret []))))) (op2 true idxS (slotO true 0) (slotO true 1)) (ret (.int 0))))
    (retS (lstM (consM (mT (op2 true mulS (mK (opN false absS (consM (slotO false 2) (ret [])))) (mK (opN false intS (consM (mT (op2 false geS (mT (opN false absS (consM (slotO false 2) (ret [])))) (mT (op2 false powS (mT (ret (.int 10))) (mT (ret (.int 18))))))) (ret [])))))) (consM (mT (op2 false modS (mT (op2 true mulS (mK (op2 true addS (mK (op2 true addS (mK (op2 false modS (slotO false 2) (mT (ret (.int 2147483629))))) (mK (op2 true mulS (mK (ret (.int 15485863))) (slotO true 1))))) (mK (ret (.int 43))))) (mK (ret (.int 48271))))) (mT (ret (.int 2147483647))))) (consM (mT (ret (.int 0))) (ret [])))))))
def f_law_box : List D → Option FR := run 3 2 0 m_law_box
/-! _law_take: 0=_law_box_here 1=_law_size 2=_law_found 3=_law_step 4=_law_once 5=_law_twice -/
def m_law_take (self : List D → Option FR) : MS := (seqS (ifS (op2 false gtS (mT (op2 true idxS (slotO true 0) (mK (ret (.int 0))))) (mT (ret (.int 0)))) (seqS (asgS (opN false divmodS (consM (mT (op2 true idxS (slotO true 0) (mK (ret (.int 0))))) (consM (slotO false 1) (ret [])))) (tupT (consT (subT 0 (mT (ret (.int 0)))) (consT (nameT 2) nilT))))
    (retV 2)) nxS)
    (seqS (ifS (op2 false gtS (slotO false 1) (mT (op2 false powS (mT (ret (.int 10))) (mT (ret (.int 7)))))) (retS (op2 false modS (mT (op2 true addS (mK (call1 self (consM (slotO false 0) (consM (mT (op2 false powS (mT (ret (.int 10))) (mT (ret (.int 7))))) (ret []))))) (mK (op2 true mulS (mK (op2 false powS (mT (ret (.int 10))) (mT (ret (.int 7))))) (mK (call1 self (consM (slotO false 0) (consM (mT (op2 true addS (mK (op2 false fdivS (mT (op2 false subS (slotO false 1) (mT (ret (.int 1))))) (mT (op2 false powS (mT (ret (.int 10))) (mT (ret (.int 7))))))) (mK (ret (.int 1))))) (ret []))))))))) (slotO false 1))) nxS)
    (seqS (asgS (op2 true addS (mK (op2 true idxS (slotO true 0) (mK (ret (.int 2))))) (mK (ret (.int 1)))) (subT 0 (mT (ret (.int 2)))))
    (seqS (setS 3 (op2 true addS (mK (ret (.int 69621))) (mK (op2 true mulS (mK (op2 true idxS (slotO true 0) (mK (ret (.int 2))))) (mK (op2 true idxS (slotO true 0) (mK (ret (.int 2)))))))))
    (seqS (setS 4 (op2 false modS (mT (op2 true mulS (mK (op2 true addS (mK (op2 true idxS (slotO true 0) (mK (ret (.int 1))))) (mK (op2 true mulS (mK (ret (.int 39373))) (mK (op2 true idxS (slotO true 0) (mK (ret (.int 2))))))))) (slotO true 3))) (mT (ret (.int 2147483587)))))
    (seqS (setS 5 (op2 false modS (mT (op2 true addS (mK (op2 true mulS (slotO true 4) (mK (op2 true addS (mK (op2 false modS (slotO false 4) (mT (ret (.int 30011))))) (mK (ret (.int 5))))))) (mK (op2 true idxS (slotO true 0) (mK (ret (.int 2))))))) (mT (ret (.int 2147483563)))))
    (retS (op2 false modS (mT (op2 false fdivS (mT (op2 false modS (mT (op2 true mulS (slotO true 5) (mK (op2 true addS (mK (op2 false modS (slotO false 5) (mT (ret (.int 1013))))) (mK (ret (.int 3))))))) (mT (ret (.int 998244353))))) (mT (ret (.int 16))))) (slotO false 1)))))))))
def f_law_take : Nat → List D → Option FR
  | 0 => fun _ => none
  | n + 1 => run 6 2 1 (m_law_take (f_law_take n))
/-! _law_folded: 0=_law_script 1=_law_size 2=_law_cells 3=_law_k 4=_law_cell -/
def m_law_folded : MS := (seqS (setS 2 (opN true listS (consM (mK (op3 true slcZ (slotO true 0) noB (intB (slotO false 1)))) (ret []))))
    (seqS (forS (srcEn (consM (mK (op3 true slcZ (slotO true 0) (intB (slotO false 1)) (intB (mT (ret (.int 63)))))) (ret []))) (tupT (consT (nameT 3) (consT (nameT 4) nilT))) (asgS (op2 true addS (mK (op2 true idxS (slotO true 2) (mK (op2 false modS (slotO false 3) (slotO false 1))))) (mK (op2 true mulS (slotO true 4) (mK (op2 true addS (slotO true 3) (mK (ret (.int 2)))))))) (subT 2 (mT (op2 false modS (slotO false 3) (slotO false 1))))))
    (retV 2)))
def f_law_folded : List D → Option FR := run 5 2 0 m_law_folded
/-! _law_same: 0=_law_found 1=_law_due 2=_law_mine 3=_law_its -/
def m_law_same (self : List D → Option FR) : MS := (seqS (ifS (opN false isiS (consM (slotO false 1) (consM (mT (tupM (consM (mT (ret (.ty "list"))) (consM (mT (ret (.ty "tuple"))) (ret []))))) (ret [])))) (seqS (ifS (orM (op2 false neS (mT (opN false isiS (consM (slotO false 0) (consM (mT (ret (.ty "list"))) (ret []))))) (mT (opN false isiS (consM (slotO false 1) (consM (mT (ret (.ty "list"))) (ret [])))))) (op2 false neS (mT (opN false isiS (consM (slotO false 0) (consM (mT (ret (.ty "tuple"))) (ret []))))) (mT (opN false isiS (consM (slotO false 1) (consM (mT (ret (.ty "tuple"))) (ret []))))))) (retS (ret (.bl false))) nxS)
    (retS (andM (op2 false eqS (mT (opN false lenS (consM (slotO false 0) (ret [])))) (mT (opN false lenS (consM (slotO false 1) (ret []))))) (opN false allS (consM (mT (lcM [2, 3] (srcZip (consM (mK (slotE 0)) (consM (mK (slotE 1)) (ret [])))) (tupT (consT (nameT 2) (consT (nameT 3) nilT))) yesM (call0 self (consM (slotO false 2) (consM (slotO false 3) (ret [])))))) (ret [])))))) nxS)
    (seqS (ifS (orM (op2 false isS (slotO false 1) (mT (ret .non))) (opN false isiS (consM (slotO false 1) (consM (mT (ret (.ty "str"))) (ret []))))) (retS (andM (op2 false eqS (slotO false 0) (slotO false 1)) (op2 false eqS (mT (opN false isiS (consM (slotO false 0) (consM (mT (ret (.ty "str"))) (ret []))))) (mT (opN false isiS (consM (slotO false 1) (consM (mT (ret (.ty "str"))) (ret [])))))))) nxS)
    (retS (andM (opN false isiS (consM (slotO false 0) (consM (mT (ret (.ty "int"))) (ret [])))) (andM (op2 false eqS (mT (opN false isiS (consM (slotO false 0) (consM (mT (ret (.ty "bool"))) (ret []))))) (mT (opN false isiS (consM (slotO false 1) (consM (mT (ret (.ty "bool"))) (ret [])))))) (op2 false eqS (slotO false 0) (slotO false 1)))))))
def f_law_same : Nat → List D → Option FR
  | 0 => fun _ => none
  | n + 1 => run 4 2 0 (m_law_same (f_law_same n))
/-! _law_of: 0=_law_box_here 1=_law_some -/
def m_law_of : MS := (retS (op2 true idxS (slotO true 1) (mK (call1 (f_law_take 12) (consM (slotO false 0) (consM (mT (opN false lenS (consM (slotO false 1) (ret [])))) (ret [])))))))
def f_law_of : List D → Option FR := run 2 2 1 m_law_of
/-! _law_strewn: 0=_law_box_here 1=_law_some 2=_law_left 3=_law_found -/
def m_law_strewn : MS := (seqS (par2 2 3 (consM (mT (opN true listS (consM (slotO true 1) (ret [])))) (consM (mT (lstM (ret []))) (ret []))))
    (seqS (whileS (op2 false neS (slotO false 2) (mT (lstM (ret [])))) (exS (appM 3 (consM (mT (popAtM 2 (consM (mT (call1 (f_law_take 12) (consM (slotO false 0) (consM (mT (opN false lenS (consM (slotO false 2) (ret [])))) (ret []))))) (ret [])))) (ret [])))) 100000)
    (retV 3)))
def f_law_strewn : List D → Option FR := run 4 2 1 m_law_strewn
/-! _law_names: 0=_law_box_here 1=_law_much 2=_law_letters 3=_law_first 4=_law_found 5=_law_stem 6=_law_turn 7=_law_step 8=_law_longer 9=_law_k 10=_law_sign -/
def m_law_names : MS := (seqS (asgS (tupM (consM (mT (ret (.str "abcdefghijklmnopqrstuvwxyz"))) (consM (mT (call1 (f_law_take 12) (consM (slotO false 0) (consM (mT (ret (.int 26))) (ret []))))) (consM (mT (lstM (ret []))) (ret []))))) (tupT (consT (nameT 2) (consT (nameT 3) (consT (nameT 4) nilT)))))
    (seqS (setS 5 (opM "str" false joinS (mT (ret (.str ""))) (consM (mT (lcM [6] (srcR1 (consM (mT (call1 (f_law_take 12) (consM (slotO false 0) (consM (mT (ret (.int 4))) (ret []))))) (ret []))) (nameT 6) yesM (op2 true idxS (slotO true 2) (mK (call1 (f_law_take 12) (consM (slotO false 0) (consM (mT (ret (.int 26))) (ret [])))))))) (ret []))))
    (seqS (par2 7 8 (consM (mT (op2 true idxS (mK (lstM (consM (mT (ret (.int 1))) (consM (mT (ret (.int 3))) (consM (mT (ret (.int 25))) (ret [])))))) (mK (call1 (f_law_take 12) (consM (slotO false 0) (consM (mT (ret (.int 3))) (ret []))))))) (consM (mT (call1 (f_law_take 12) (consM (slotO false 0) (consM (mT (ret (.int 2))) (ret []))))) (ret []))))
    (seqS (forS (srcR1 (consM (slotO false 1) (ret []))) (nameT 9) (seqS (setS 10 (op2 true idxS (slotO true 2) (mK (op2 false modS (mT (op2 true addS (slotO true 3) (mK (op2 true mulS (slotO true 7) (mK (ifM (op2 false eqS (slotO false 8) (mT (ret (.int 1)))) (op2 false fdivS (slotO false 9) (mT (ret (.int 2)))) (slotE 9))))))) (mT (ret (.int 26)))))))
    (exS (appM 4 (consM (mT (op2 true addS (mK (op2 true addS (slotO true 5) (slotO true 10))) (mK (op2 true mulS (mK (ret (.str "ab"))) (mK (opN false intS (consM (mT (andM (op2 false eqS (slotO false 8) (mT (ret (.int 1)))) (op2 false eqS (mT (op2 false modS (slotO false 9) (mT (ret (.int 2))))) (mT (ret (.int 1)))))) (ret [])))))))) (ret []))))))
    (retV 4)))))
def f_law_names : List D → Option FR := run 11 2 1 m_law_names
/-! _law_tree: 0=_law_box_here 1=_law_low 2=_law_high 3=_law_much 4=_law_mode 5=_law_ties 6=_law_folk 7=_law_k 8=_law_its -/
def m_law_tree : MS := (seqS (par3 3 4 5 (consM (mT (op2 true addS (slotO true 1) (mK (call1 (f_law_take 12) (consM (slotO false 0) (consM (mT (op2 true addS (mK (op2 false subS (slotO false 2) (slotO false 1))) (mK (ret (.int 1))))) (ret []))))))) (consM (mT (call1 (f_law_take 12) (consM (slotO false 0) (consM (mT (ret (.int 4))) (ret []))))) (consM (mT (lstM (ret []))) (ret [])))))
    (seqS (setS 6 (call1 f_law_strewn (consM (slotO false 0) (consM (mT (call1 f_law_names (consM (slotO false 0) (consM (slotO false 3) (ret []))))) (ret [])))))
    (seqS (forS (srcR2 (consM (mT (ret (.int 1))) (consM (slotO false 3) (ret [])))) (nameT 7) (seqS (setS 8 (op2 true idxS (slotO true 6) (mK (op2 true idxS (mK (lstM (consM (mT (op2 false subS (slotO false 7) (mT (ret (.int 1))))) (consM (mT (ret (.int 0))) (consM (mT (call1 (f_law_take 12) (consM (slotO false 0) (consM (slotO false 7) (ret []))))) (consM (mT (opN false max2S (consM (mT (ret (.int 0))) (consM (mT (op2 false subS (mT (op2 false subS (slotO false 7) (mT (ret (.int 1))))) (mT (call1 (f_law_take 12) (consM (slotO false 0) (consM (mT (ret (.int 3))) (ret []))))))) (ret []))))) (ret []))))))) (slotO true 4)))))
    (exS (appM 5 (consM (mT (tupM (consM (mT (opN false min2S (consM (mT (op2 true idxS (slotO true 6) (slotO true 7))) (consM (slotO false 8) (ret []))))) (consM (mT (opN false max2S (consM (mT (op2 true idxS (slotO true 6) (slotO true 7))) (consM (slotO false 8) (ret []))))) (ret []))))) (ret []))))))
    (retS (tupM (consM (mT (opN true tupleS (consM (mK (opN true sortedS (consM (slotO true 6) (ret [])))) (ret [])))) (consM (mT (opN true tupleS (consM (mK (opN true sortedS (consM (slotO true 5) (ret [])))) (ret [])))) (ret []))))))))
def f_law_tree : List D → Option FR := run 9 3 1 m_law_tree
/-! _law_tied: 0=_law_wood 1=_law_mine 2=_law_its -/
def m_law_tied : MS := (retS (op2 false (inS false) (mT (tupM (consM (mT (opN false min2S (consM (slotO false 1) (consM (slotO false 2) (ret []))))) (consM (mT (opN false max2S (consM (slotO false 1) (consM (slotO false 2) (ret []))))) (ret []))))) (mT (op2 true idxS (slotO true 0) (mK (ret (.int 1)))))))
def f_law_tied : List D → Option FR := run 3 3 0 m_law_tied
/-! _law_spoke: 0=_law_wood 1=_law_heaps 2=_law_pair 3=_law_teller 4=_law_hearer 5=_law_whom 6=_law_found 7=_law_more 8=_law_word -/
def m_law_spoke : MS := (seqS (asgS (lcM [5] (srcSeq (slotE 2)) (nameT 5) yesM (opM "list" false indexS (mT (opN true listS (consM (mK (op2 true idxS (slotO true 0) (mK (ret (.int 0))))) (ret [])))) (consM (slotO false 5) (ret [])))) (tupT (consT (nameT 3) (consT (nameT 4) nilT))))
    (seqS (setS 6 (opN true listS (consM (slotO true 1) (ret []))))
    (seqS (setS 7 (lcM [8] (srcSeq (op2 true idxS (slotO true 1) (slotO true 3))) (nameT 8) (op2 false (inS true) (slotO false 8) (mT (op2 true idxS (slotO true 1) (slotO true 4)))) (slotE 8)))
    (seqS (asgS (op2 true addS (mK (opN true tupleS (consM (mK (op2 true idxS (slotO true 1) (slotO true 4))) (ret [])))) (mK (opN true tupleS (consM (slotO true 7) (ret []))))) (subT 6 (slotO false 4)))
    (retS (opN true tupleS (consM (slotO true 6) (ret []))))))))
def f_law_spoke : List D → Option FR := run 9 3 0 m_law_spoke
/-! _law_own: 0=_law_wood 1=_law_whom -/
def m_law_own : MS := (retS (opN true tupleS (consM (mK (lcM [1] (srcSeq (op2 true idxS (slotO true 0) (mK (ret (.int 0))))) (nameT 1) yesM (tupM (consM (mT (slotE 1)) (ret []))))) (ret []))))
def f_law_own : List D → Option FR := run 2 1 0 m_law_own
/-! _law_row: 0=_law_box_here 1=_law_wood 2=_law_much 3=_law_found 4=_law_turn 5=_law_tie -/
def m_law_row : MS := (seqS (setS 3 (lstM (ret [])))
    (seqS (forS (srcR1 (consM (mT (op2 true mulS (slotO true 2) (mK (opN false intS (consM (mT (op2 false neS (mT (op2 true idxS (slotO true 1) (mK (ret (.int 1))))) (mT (tupM (ret []))))) (ret [])))))) (ret []))) (nameT 4) (seqS (setS 5 (call1 f_law_of (consM (slotO false 0) (consM (mT (op2 true idxS (slotO true 1) (mK (ret (.int 1))))) (ret [])))))
    (exS (appM 3 (consM (mT (op2 true stepS (slotO true 5) (mK (op2 true idxS (mK (lstM (consM (mT (ret (.int 1))) (consM (mT (op1 false negS (mT (ret (.int 1))))) (ret []))))) (mK (call1 (f_law_take 12) (consM (slotO false 0) (consM (mT (ret (.int 2))) (ret []))))))))) (ret []))))))
    (retV 3)))
def f_law_row : List D → Option FR := run 6 3 1 m_law_row
/-! _law_any_stand: 0=_law_box_here 1=_law_wood 2=_law_found 3=_law_whom 4=_law_rest 5=_law_its -/
def m_law_any_stand : MS := (seqS (setS 2 (lstM (ret [])))
    (seqS (forS (srcSeq (op2 true idxS (slotO true 1) (mK (ret (.int 0))))) (nameT 3) (seqS (setS 4 (call1 f_law_strewn (consM (slotO false 0) (consM (mT (lcM [5] (srcSeq (op2 true idxS (slotO true 1) (mK (ret (.int 0))))) (nameT 5) (op2 false neS (slotO false 5) (slotO false 3)) (slotE 5))) (ret [])))))
    (exS (appM 2 (consM (mT (op2 true addS (mK (tupM (consM (mT (slotE 3)) (ret [])))) (mK (opN true tupleS (consM (mK (op3 true slcZ (slotO true 4) noB (intB (mT (call1 (f_law_take 12) (consM (slotO false 0) (consM (mT (op2 true addS (mK (opN false lenS (consM (slotO false 4) (ret [])))) (mK (ret (.int 1))))) (ret [])))))))) (ret [])))))) (ret []))))))
    (retS (opN true tupleS (consM (slotO true 2) (ret []))))))
def f_law_any_stand : List D → Option FR := run 6 2 1 m_law_any_stand
/-! _law_lists: 0=_law_what 1=_law_mine -/
def m_law_lists (self : List D → Option FR) : MS := (retS (ifM (opN false isiS (consM (slotO false 0) (consM (mT (tupM (consM (mT (ret (.ty "list"))) (consM (mT (ret (.ty "tuple"))) (ret []))))) (ret [])))) (lcM [1] (srcSeq (slotE 0)) (nameT 1) yesM (call0 self (consM (slotO false 1) (ret [])))) (slotE 0)))
def f_law_lists : Nat → List D → Option FR
  | 0 => fun _ => none
  | n + 1 => run 2 1 0 (m_law_lists (f_law_lists n))
/-! _law_told: 0=_law_ask 1=_law_found 2=_law_caught 3=error -/
def m_law_told : MS := (seqS (ifS (op2 false isS (slotO false 2) (mT (ret .non))) (retV 1) nxS)
    (retS (ifM (andM (opN false (isxS xk) (consM (slotO false 2) (consM (mT (ret (.cls "NoTie"))) (ret [])))) (opN false (isxS xk) (consM (slotO false 2) (consM (mT (ret (.ty "LookupError"))) (ret []))))) (lstM (consM (mT (ret (.str "tie"))) (consM (mT (fldM xk "saying" (slotE 2))) (ret [])))) (ret .non))))
def told_law_told : List D → FR → Option D := toldA m_law_told xk.Kn ["NoName", "NoTie"]
/-! _law_row_right: 0=_law_wood 1=_law_pose 2=_law_trip 3=_law_here 4=_law_idle 5=_law_strange 6=_law_at 7=_law_pair 8=_law_fine 9=_law_later 10=_law_due 11=_law_told_here 12=_law_some -/
def m_law_row_right : MS := (seqS (par3 3 4 5 (consM (mT (slotE 1)) (consM (mT (lstM (ret []))) (consM (mT (ret .non)) (ret [])))))
    (seqS (forS (srcEn (consM (mK (slotE 2)) (ret []))) (tupT (consT (nameT 6) (consT (nameT 7) nilT))) (seqS (setS 8 (andM (op2 false (inS false) (mT (op2 true idxS (slotO true 7) (mK (ret (.int 0))))) (mT (op2 true idxS (slotO true 0) (mK (ret (.int 0)))))) (andM (op2 false (inS false) (mT (op2 true idxS (slotO true 7) (mK (ret (.int 1))))) (mT (op2 true idxS (slotO true 0) (mK (ret (.int 0)))))) (call0 f_law_tied (consM (slotO false 0) (consM (mT (op2 true idxS (slotO true 7) (mK (ret (.int 0))))) (consM (mT (op2 true idxS (slotO true 7) (mK (ret (.int 1))))) (ret []))))))))
    (ifS (andM (op2 false isS (slotO false 5) (mT (ret .non))) (slotE 8)) (seqS (setS 9 (call0 f_law_spoke (consM (slotO false 0) (consM (slotO false 3) (consM (slotO false 7) (ret []))))))
    (par2 4 3 (consM (mT (op2 true addS (slotO true 4) (mK (op2 true mulS (mK (lstM (consM (mT (slotE 6)) (ret [])))) (mK (opN false intS (consM (mT (op2 false eqS (slotO false 9) (slotO false 3))) (ret [])))))))) (consM (mT (slotE 9)) (ret []))))) (ifS (op2 false isS (slotO false 5) (mT (ret .non))) (setS 5 (lstM (consM (mT (ret (.str "tie"))) (consM (mT (slotE 7)) (ret []))))) nxS))))
    (seqS (setS 10 (ifM (op2 false isS (slotO false 5) (mT (ret .non))) (lstM (consM (mT (slotE 3)) (consM (mT (slotE 4)) (ret [])))) (lstM (consM (mT (slotE 5)) (consM (mT (slotE 5)) (ret []))))))
    (seqS (setS 11 (lstM (consM (mT (lamF told_law_told [] (cax0 fdone (consM (mT (slotE 0)) (consM (mT (slotE 1)) (consM (mT (slotE 2)) (ret []))))))) (ret []))))
    (seqS (exS (appM 11 (consM (mT (lamF told_law_told [] (cax0 fidle_in (consM (mT (slotE 0)) (consM (mT (slotE 1)) (consM (mT (slotE 2)) (ret []))))))) (ret []))))
    (seqS (ifS (notM (call0 (f_law_same 12) (consM (slotO false 11) (consM (slotO false 10) (ret []))))) (retS (ret (.bl false))) nxS)
    (seqS (ifS (op2 false isntS (slotO false 5) (mT (ret .non))) (retS (ret (.bl true))) nxS)
    (seqS (exS (appLM 11 1 "more"))
    (seqS (setS 12 (lstM (consM (mT (callK [2, 1, 0] fdone (consM (mT (opN true tupleS (consM (mK (call0 (f_law_lists 12) (consM (slotO false 2) (ret [])))) (ret [])))) (consM (mT (call0 (f_law_lists 12) (consM (slotO false 1) (ret [])))) (consM (mT (call0 (f_law_lists 12) (consM (slotO false 0) (ret [])))) (ret [])))))) (ret []))))
    (seqS (exS (appM 12 (consM (mT (callK [2, 1, 0] fidle_in (consM (mT (opN true tupleS (consM (mK (call0 (f_law_lists 12) (consM (slotO false 2) (ret [])))) (ret [])))) (consM (mT (call0 (f_law_lists 12) (consM (slotO false 1) (ret [])))) (consM (mT (call0 (f_law_lists 12) (consM (slotO false 0) (ret [])))) (ret [])))))) (ret []))))
    (retS (call0 (f_law_same 12) (consM (mT (op2 true addS (slotO true 12) (mK (lstM (consM (mT (call0 fidle_in (consM (slotO false 0) (consM (slotO false 1) (consM (slotO false 2) (ret [])))))) (ret [])))))) (consM (mT (lstM (consM (mT (slotE 3)) (consM (mT (slotE 4)) (consM (mT (slotE 4)) (ret [])))))) (ret [])))))))))))))))
def f_law_row_right : List D → Option FR := run 13 3 0 m_law_row_right
/-! _law_right: 0=_law_box_here 1=_law_wood 2=_law_pose 3=_law_trip 4=_law_strange 5=_law_at 6=_law_kept -/
def m_law_right : MS := (seqS (setS 1 (call1 f_law_tree (consM (slotO false 0) (consM (mT (ret (.int 1))) (consM (mT (ret (.int 12))) (ret []))))))
    (seqS (forS (srcSeq (tupM (consM (mT (call0 f_law_own (consM (slotO false 1) (ret [])))) (consM (mT (call1 f_law_any_stand (consM (slotO false 0) (consM (slotO false 1) (ret []))))) (ret []))))) (nameT 2) (seqS (setS 3 (call1 f_law_row (consM (slotO false 0) (consM (slotO false 1) (consM (mT (call1 (f_law_take 12) (consM (slotO false 0) (consM (mT (ret (.int 41))) (ret []))))) (ret []))))))
    (seqS (ifS (op2 false eqS (mT (call1 (f_law_take 12) (consM (slotO false 0) (consM (mT (ret (.int 3))) (ret []))))) (mT (ret (.int 0)))) (seqS (setS 4 (tupM (consM (mT (call1 f_law_of (consM (slotO false 0) (consM (mT (op2 true idxS (slotO true 1) (mK (ret (.int 0))))) (ret []))))) (consM (mT (call1 f_law_of (consM (slotO false 0) (consM (mT (op2 true addS (mK (opN true listS (consM (mK (op2 true idxS (slotO true 1) (mK (ret (.int 0))))) (ret [])))) (mK (lstM (consM (mT (ret (.str "zzzzzz"))) (ret [])))))) (ret []))))) (ret [])))))
    (seqS (setS 4 (ifM (op2 false eqS (mT (call1 (f_law_take 12) (consM (slotO false 0) (consM (mT (ret (.int 2))) (ret []))))) (mT (ret (.int 0)))) (opN true listS (consM (slotO true 4) (ret []))) (slotE 4)))
    (seqS (setS 5 (call1 (f_law_take 12) (consM (slotO false 0) (consM (mT (op2 true addS (mK (opN false lenS (consM (slotO false 3) (ret [])))) (mK (ret (.int 1))))) (ret [])))))
    (setS 3 (op2 true addS (mK (op2 true addS (mK (op2 true addS (mK (op3 true slcZ (slotO true 3) noB (intB (slotO false 5)))) (mK (lstM (consM (mT (slotE 4)) (ret [])))))) (mK (op3 true slcZ (slotO true 3) (intB (slotO false 5)) noB)))) (mK (lstM (consM (mT (tupM (consM (mT (ret (.str ""))) (consM (mT (ret (.str ""))) (ret []))))) (ret []))))))))) nxS)
    (seqS (setS 6 (opN false reprS (consM (mT (lstM (consM (mT (slotE 1)) (consM (mT (slotE 2)) (consM (mT (slotE 3)) (ret [])))))) (ret []))))
    (ifS (orM (notM (call0 f_law_row_right (consM (slotO false 1) (consM (slotO false 2) (consM (slotO false 3) (ret [])))))) (op2 false neS (mT (opN false reprS (consM (mT (lstM (consM (mT (slotE 1)) (consM (mT (slotE 2)) (consM (mT (slotE 3)) (ret [])))))) (ret [])))) (slotO false 6))) (retS (ret (.bl false))) nxS)))))
    (retS (ret (.bl true)))))
def f_law_right : List D → Option FR := run 7 1 1 m_law_right
/-! law: 0=_law_script 1=_law_cells 2=_law_k 3=_law_box_here 4=_law_turn -/
def mlaw : MS := (seqS (setS 1 (call0 f_law_folded (consM (slotO false 0) (consM (mT (ret (.int 2))) (ret [])))))
    (seqS (forS (srcR1 (consM (mT (opN false max2S (consM (mT (ret (.int 1))) (consM (mT (opN false lenS (consM (slotO false 1) (ret [])))) (ret []))))) (ret []))) (nameT 2) (seqS (setS 3 (call0 f_law_box (consM (slotO false 1) (consM (slotO false 2) (ret [])))))
    (ifS (notM (opN false allS (consM (mT (lcM [4] (srcR1 (consM (mT (ret (.int 3))) (ret []))) (nameT 4) yesM (call1 f_law_right (consM (slotO false 3) (ret []))))) (ret [])))) (retS (ret (.bl false))) nxS)))
    (retS (ret (.bl true)))))
def flaw : List D → Option FR := run 5 1 0 mlaw
/-! led: 0=tree 1=lists 2=row 3=here 4=saying -/
def mled : MS := (seqS (setS 3 (call0 fas_stand (consM (slotO false 1) (ret []))))
    (seqS (forS (srcSeq (slotE 2)) (nameT 4) (setS 3 (cax0 fheard (consM (slotO false 0) (consM (slotO false 3) (consM (slotO false 4) (ret [])))))))
    (retV 3)))
def fled : List D → Option FR := run 5 3 0 mled
/-! _law_went: 0=_law_wood 1=_law_heaps 2=_law_trip 3=_law_pair -/
def m_law_went : MS := (seqS (forS (srcSeq (slotE 2)) (nameT 3) (setS 1 (call0 f_law_spoke (consM (slotO false 0) (consM (slotO false 1) (consM (slotO false 3) (ret [])))))))
    (retV 1))
def f_law_went : List D → Option FR := run 4 3 0 m_law_went
/-! _law_any_lists: 0=_law_box_here 1=_law_wood 2=_law_some 3=_law_size 4=_law_whom -/
def m_law_any_lists : MS := (seqS (setS 2 (op2 true addS (mK (lstM (consM (mT (ret (.str ""))) (consM (mT (ret (.str "a1"))) (consM (mT (ret (.str "b c"))) (consM (mT (ret (.str "aaaaaaa"))) (consM (mT (ret (.str "x y"))) (consM (mT (ret (.str "A"))) (consM (mT (ret (.str "9"))) (ret [])))))))))) (mK (opN true listS (consM (mK (op2 true idxS (slotO true 1) (mK (ret (.int 0))))) (ret []))))))
    (seqS (setS 3 (op2 true idxS (mK (lstM (consM (mT (ret (.int 6))) (consM (mT (ret (.int 6))) (consM (mT (ret (.int 20))) (ret [])))))) (mK (call1 (f_law_take 12) (consM (slotO false 0) (consM (mT (ret (.int 3))) (ret [])))))))
    (retS (opN true tupleS (consM (mK (lcM [4] (srcSeq (op2 true idxS (slotO true 1) (mK (ret (.int 0))))) (nameT 4) yesM (opN true tupleS (consM (mK (op3 true slcZ (mK (call1 f_law_strewn (consM (slotO false 0) (consM (slotO false 2) (ret []))))) noB (intB (mT (call1 (f_law_take 12) (consM (slotO false 0) (consM (slotO false 3) (ret [])))))))) (ret []))))) (ret []))))))
def f_law_any_lists : List D → Option FR := run 5 2 1 m_law_any_lists
/-! _law_is_refused: 0=_law_ask 1=_law_strange 2=_law_caught 3=error -/
def m_law_is_refused : MS := (retS (andM (opN false (isxS xk) (consM (slotO false 2) (consM (mT (ret (.cls "NoTie"))) (ret [])))) (andM (opN false (isxS xk) (consM (slotO false 2) (consM (mT (ret (.ty "LookupError"))) (ret [])))) (call0 (f_law_same 12) (consM (mT (fldM xk "saying" (slotE 2))) (consM (slotO false 1) (ret [])))))))
def told_law_is_refused : List D → FR → Option D := toldB m_law_is_refused xk.Kn ["NoName", "NoTie"]
/-! by_stand: 0=tree 1=lists 2=stand 3=found 4=names 5=here 6=name -/
def mby_stand : MS := (seqS (setS 3 (lstM (ret [])))
    (seqS (forS (srcSeq (slotE 2)) (nameT 4) (seqS (setS 5 (tupM (ret [])))
    (seqS (forS (srcSeq (slotE 4)) (nameT 6) (setS 5 (call0 fjoined (consM (slotO false 5) (consM (mT (op2 true idxS (slotO true 1) (mK (call0 fplace_of (consM (slotO false 0) (consM (slotO false 6) (ret []))))))) (ret []))))))
    (exS (appM 3 (consM (mT (slotE 5)) (ret [])))))))
    (retS (opN true tupleS (consM (slotO true 3) (ret []))))))
def fby_stand : List D → Option FR := run 7 3 0 mby_stand
/-! put: 0=tree 1=one 2=other -/
def mput : MS := (retS (call0 fby_stand (consM (slotO false 0) (consM (slotO false 1) (consM (slotO false 2) (ret []))))))
def fput : List D → Option FR := run 3 3 0 mput
/-! _law_by: 0=_law_wood 1=_law_heaps 2=_law_pose 3=_law_found 4=_law_part 5=_law_some 6=_law_whom 7=_law_word -/
def m_law_by : MS := (seqS (setS 3 (lstM (ret [])))
    (seqS (forS (srcSeq (slotE 2)) (nameT 4) (seqS (setS 5 (lstM (ret [])))
    (seqS (forS (srcSeq (slotE 4)) (nameT 6) (setS 5 (op2 true addS (slotO true 5) (mK (lcM [7] (srcSeq (op2 true idxS (slotO true 1) (mK (opM "list" false indexS (mT (opN true listS (consM (mK (op2 true idxS (slotO true 0) (mK (ret (.int 0))))) (ret [])))) (consM (slotO false 6) (ret [])))))) (nameT 7) (op2 false (inS true) (slotO false 7) (slotO false 5)) (slotE 7))))))
    (exS (appM 3 (consM (mT (opN true tupleS (consM (slotO true 5) (ret [])))) (ret [])))))))
    (retS (opN true tupleS (consM (slotO true 3) (ret []))))))
def f_law_by : List D → Option FR := run 8 3 0 m_law_by
/-! bare: 0=tree 1=name -/
def mbare : MS := (retS (opN true tupleS (consM (mK (lcM [1] (srcSeq (op2 true idxS (slotO true 0) (mK (ret (.int 0))))) (nameT 1) yesM (tupM (consM (mT (slotE 1)) (ret []))))) (ret []))))
def fbare : List D → Option FR := run 2 1 0 mbare
/-! are_alike: 0=tree 1=row 2=other -/
def mare_alike : MS := (retS (op2 false eqS (mT (cax0 fdone (consM (slotO false 0) (consM (mT (call0 fbare (consM (slotO false 0) (ret [])))) (consM (slotO false 1) (ret [])))))) (mT (cax0 fdone (consM (slotO false 0) (consM (mT (call0 fbare (consM (slotO false 0) (ret [])))) (consM (slotO false 2) (ret []))))))))
def fare_alike : List D → Option FR := run 3 3 0 mare_alike
/-! gone_on: 0=tree 1=row 2=many 3=here 4=often 5=later -/
def mgone_on : MS := (seqS (par2 3 4 (consM (mT (call0 fbare (consM (slotO false 0) (ret [])))) (consM (mT (ret (.int 0))) (ret []))))
    (seqS (setS 5 (cax0 fdone (consM (slotO false 0) (consM (slotO false 3) (consM (slotO false 1) (ret []))))))
    (seqS (whileS (andM (op2 false ltS (slotO false 4) (slotO false 2)) (op2 false neS (slotO false 5) (slotO false 3))) (seqS (par2 3 4 (consM (mT (slotE 5)) (consM (mT (op2 true addS (slotO true 4) (mK (ret (.int 1))))) (ret []))))
    (setS 5 (cax0 fdone (consM (slotO false 0) (consM (slotO false 3) (consM (slotO false 1) (ret []))))))) 100000)
    (retS (tupM (consM (mT (slotE 4)) (consM (mT (slotE 3)) (ret []))))))))
def fgone_on : List D → Option FR := run 6 3 0 mgone_on
/-! rest_of: 0=tree 1=row -/
def mrest_of : MS := (retS (cax0 fgone_on (consM (slotO false 0) (consM (slotO false 1) (consM (mT (op2 false powS (mT (opN false lenS (consM (mT (op2 true idxS (slotO true 0) (mK (ret (.int 0))))) (ret [])))) (mT (ret (.int 2))))) (ret []))))))
def frest_of : List D → Option FR := run 2 2 0 mrest_of
/-! far: 0=tree 1=row 2=many -/
def mfar : MS := (retS (op2 true idxS (mK (cax0 fgone_on (consM (slotO false 0) (consM (slotO false 1) (consM (slotO false 2) (ret [])))))) (mK (ret (.int 1)))))
def ffar : List D → Option FR := run 3 3 0 mfar
end Z

set_option Elab.async false
set_option linter.all false
set_option maxRecDepth 100000
set_option maxHeartbeats 400000
/-! P1: what the program's functions tell of trees, stands and rows of names. -/
namespace Z
open PySem
/-! ### equal data -/
theorem str_beq (a b : Str) : (a == b) = decide (a = b) := Bool.beq_eq_decide_eq a b
theorem eqvAll_strs : ∀ a b : List Str, PyData.eqvAll (pys (a.map .str)) (pys (b.map .str)) = decide (a = b)
  | [], [] => rfl
  | [], _ :: _ => rfl
  | _ :: _, [] => rfl
  | x :: a, y :: b => by
    simp only [List.map_cons, pys, py, PyData.eqvAll, PyData.eqv, eqvAll_strs a b, str_beq, List.cons.injEq, Bool.decide_and]
theorem eqv_nm (a b : List Str) : PyData.eqv (py (nmD a)) (py (nmD b)) = decide (a = b) := eqvAll_strs a b
theorem eqv_sa (p q : Str × Str) : PyData.eqv (py (saD p)) (py (saD q)) = decide (p = q) := by
  obtain ⟨a, b⟩ := p
  obtain ⟨c, d⟩ := q
  simp only [saD, py, pys, PyData.eqv, PyData.eqvAll, str_beq, Bool.and_true, Prod.mk.injEq, Bool.decide_and]
theorem eqvAll_nms : ∀ a b : List (List Str), PyData.eqvAll (pys (a.map nmD)) (pys (b.map nmD)) = decide (a = b)
  | [], [] => rfl
  | [], _ :: _ => rfl
  | _ :: _, [] => rfl
  | x :: a, y :: b => by
    simp only [List.map_cons, pys, PyData.eqvAll, eqvAll_nms a b, eqv_nm, List.cons.injEq, Bool.decide_and]
theorem eqv_st (a b : List (List Str)) : PyData.eqv (py (stD a)) (py (stD b)) = decide (a = b) := eqvAll_nms a b
theorem pls_strs (n : Nat) (l : List Str) : pls n (l.map .str) = true := by
  induction l with
  | nil => cases n <;> rfl
  | cons a l ih => simp only [List.map_cons, pls, pl, ih, Bool.and_self]
theorem pl_nm (n : Nat) (l : List Str) : pl (n + 1) (nmD l) = true := pls_strs n l
theorem pl_sa (n : Nat) (p : Str × Str) : pl (n + 1) (saD p) = true := by simp [saD, pl, pls]
theorem pls_nms (n : Nat) (l : List (List Str)) : pls (n + 1) (l.map nmD) = true := by
  induction l with
  | nil => rfl
  | cons a l ih => simp only [List.map_cons, pls, pl_nm, ih, Bool.and_self]
theorem pls_sas (n : Nat) (l : List (Str × Str)) : pls (n + 1) (l.map saD) = true := by
  induction l with
  | nil => rfl
  | cons a l ih => simp only [List.map_cons, pls, pl_sa, ih, Bool.and_self]
@[simp] theorem eqS_st (a b : List (List Str)) : eqS [stD a, stD b] = some (.bl (decide (a = b))) := by
  simp only [eqS, eqv_st, show pl 50 (stD a) = true from pls_nms 48 a, show pl 50 (stD b) = true from pls_nms 48 b, Bool.and_self, if_true]
@[simp] theorem neS_st (a b : List (List Str)) : neS [stD a, stD b] = some (.bl (!decide (a = b))) := by
  simp only [neS, eqv_st, show pl 50 (stD a) = true from pls_nms 48 a, show pl 50 (stD b) = true from pls_nms 48 b, Bool.and_self, if_true]
theorem any_str (w : Str) (l : List Str) : ((l.map D.str).any fun z => PyData.eqv (py z) (py (.str w))) = decide (w ∈ l) := by
  induction l with
  | nil => rfl
  | cons a l ih =>
    rw [List.map_cons, List.any_cons, ih, Bool.eq_iff_iff]
    simp only [py, PyData.eqv, str_beq, Bool.or_eq_true, decide_eq_true_eq, List.mem_cons]
    exact or_congr eq_comm Iff.rfl
theorem any_sa (w : Str × Str) (l : List (Str × Str)) : ((l.map saD).any fun z => PyData.eqv (py z) (py (saD w))) = decide (w ∈ l) := by
  induction l with
  | nil => rfl
  | cons a l ih =>
    rw [List.map_cons, List.any_cons, ih, Bool.eq_iff_iff]
    simp only [eqv_sa, Bool.or_eq_true, decide_eq_true_eq, List.mem_cons]
    exact or_congr eq_comm Iff.rfl
@[simp] theorem inS_str (neg o : Bool) (w : Str) (l : List Str) : inS neg [.str w, .lst o (l.map .str)] = some (.bl (neg ^^ decide (w ∈ l))) := by
  simp only [inS, any_str, show pl 50 (.str w) = true from rfl, pls_strs, Bool.and_self, if_true]
@[simp] theorem inS_sa (neg o : Bool) (w : Str × Str) (l : List (Str × Str)) : inS neg [saD w, .lst o (l.map saD)] = some (.bl (neg ^^ decide (w ∈ l))) := by
  simp only [inS, any_sa, pl_sa 49, pls_sas 49, Bool.and_self, if_true]
@[simp] theorem idx_tr0 (ns : List Str) (ties : List (Str × Str)) : idxS [trD ns ties, .int 0] = some (nmD ns) := rfl
@[simp] theorem idx_tr1 (ns : List Str) (ties : List (Str × Str)) : idxS [trD ns ties, .int 1] = some (.tup (ties.map saD)) := rfl
@[simp] theorem tupleS_nm (l : List Str) : tupleS [nmD l] = some (nmD l) := rfl
@[simp] theorem tupleS_sa (p : Str × Str) : tupleS [saD p] = some (saD p) := rfl
@[simp] theorem listS_nm (l : List Str) : listS [nmD l] = some (.lst true (l.map .str)) := rfl
@[simp] theorem knT_nm (l : List Str) : knT (nmD l) = nmD l := knT_of (by simp)
@[simp] theorem knT_st (l : List (List Str)) : knT (stD l) = stD l := knT_of (by simp)

/-! ### trees -/
def lo (a b : Str) : Str := if b.cps.toList < a.cps.toList then b else a
def hi (a b : Str) : Str := if a.cps.toList < b.cps.toList then b else a
@[simp] theorem min2_lo (a b : Str) : min2S [.str a, .str b] = some (.str (lo a b)) := rfl
@[simp] theorem max2_hi (a b : Str) : max2S [.str a, .str b] = some (.str (hi a b)) := rfl
def tied (ties : List (Str × Str)) (a b : Str) : Bool := decide ((lo a b, hi a b) ∈ ties)
theorem p_is_tied {ns : List Str} {ties : List (Str × Str)} {a b : Str} (h : ties.length ≤ 1000) : fis_tied [trD ns ties, .str a, .str b] = some (.ok (.bl (tied ties a b)) []) := by
  have key := lcL_map (vs := [3]) (g := nameT 3) (m := opN true tupleS (consM (slotO true 3) (ret []))) (r := [some (trD ns ties), some (.str a), some (.str b), none]) (f := id) (ds := ties.map saD) (fun d hd => by
    obtain ⟨p, _, rfl⟩ := List.mem_map.mp hd
    exact ⟨_, _, by simp; rfl, by simp; rfl, by simp⟩)
  have q := inS_sa false true (lo a b, hi a b) ties
  have z : ties.length ≤ 10000000 := by omega
  simp only [List.map_id] at key
  simp only [saD] at q
  simp [fis_tied, run, mis_tied, key, z, q, tied]
def plF (ns : List Str) (n : Str) : Nat := (ns.findIdx? (fun y => decide (y = n))).getD 0
theorem plF_mem {ns : List Str} {n : Str} (h : n ∈ ns) : ns.findIdx? (fun y => decide (y = n)) = some (plF ns n) ∧ plF ns n < ns.length := by
  cases q : ns.findIdx? (fun y => decide (y = n)) with
  | none =>
    rw [List.findIdx?_eq_none_iff] at q
    have := q n h
    simp at this
  | some i =>
    refine ⟨by simp [plF, q], ?_⟩
    obtain ⟨hlt, _⟩ := List.findIdx?_eq_some_iff_getElem.mp q
    simpa [plF, q] using hlt
theorem p_place_of {ns : List Str} {ties : List (Str × Str)} {n : Str} (h : n ∈ ns) : fplace_of [trD ns ties, .str n] = some (.ok (.int (plF ns n : Nat)) []) := by
  simp [fplace_of, run, mplace_of, indexS, (plF_mem h).1]
theorem p_as_stand {ls : List (List Str)} (h : ls.length ≤ 1000) : fas_stand [stD ls] = some (.ok (stD ls) []) := by
  have key := lcL_map (vs := [1]) (g := nameT 1) (m := opN true tupleS (consM (slotO true 1) (ret []))) (r := [some (stD ls), none]) (f := id) (ds := ls.map nmD) (fun d hd => by
    obtain ⟨p, _, rfl⟩ := List.mem_map.mp hd
    exact ⟨_, _, by simp; rfl, by simp; rfl, by simp⟩)
  have z : ls.length ≤ 10000000 := by omega
  simp only [List.map_id] at key
  simp [fas_stand, run, mas_stand, key, z]
  simp [tupleS, stD]
theorem p_bare {ns : List Str} {ties : List (Str × Str)} (h : ns.length ≤ 1000) : fbare [trD ns ties] = some (.ok (stD (ns.map fun n => [n])) []) := by
  have key := lcL_map (vs := [1]) (g := nameT 1) (m := tupM (consM (mT (slotE 1)) (ret []))) (r := [some (trD ns ties), none]) (f := fun d => .tup [d]) (ds := ns.map D.str) (fun d hd => by
    obtain ⟨p, _, rfl⟩ := List.mem_map.mp hd
    exact ⟨_, _, by simp; rfl, by simp; rfl, by simp⟩)
  have z : ns.length ≤ 10000000 := by omega
  have e : (ns.map D.str).map (fun d => D.tup [d]) = (ns.map fun n => [n]).map nmD := by simp [nmD]
  rw [e] at key
  simp [-List.map_map, fbare, run, mbare, key, z]
  simp [-List.map_map, tupleS, stD]
end Z

set_option Elab.async false
set_option linter.all false
set_option maxRecDepth 100000
set_option maxHeartbeats 400000
/-! P2: sayings. -/
namespace Z
open PySem
theorem p_look_saying {ns : List Str} {ties : List (Str × Str)} {p : Str × Str} (h : ties.length ≤ 1000) (ht : tied ties p.1 p.2 = true) : flook_saying [trD ns ties, saD p] = some (.ok .non []) := by
  simp [flook_saying, run, mlook_saying, p_is_tied h, ht]
def joinF (a b : List Str) : List Str := b.foldl (fun acc w => if w ∈ acc then acc else acc ++ [w]) a
theorem joinF_cons (a : List Str) (w : Str) (b : List Str) : joinF a (w :: b) = joinF (if w ∈ a then a else a ++ [w]) b := rfl
theorem joinF_len : ∀ (b a : List Str), (joinF a b).length ≤ a.length + b.length
  | [], a => Nat.le_refl _
  | w :: b, a => by
    rw [joinF_cons]
    by_cases h : w ∈ a
    · have := joinF_len b a
      rw [if_pos h, List.length_cons]; omega
    · have := joinF_len b (a ++ [w])
      rw [if_neg h, List.length_cons]; simp at this; omega
theorem map_snoc (a : List Str) (w : Str) : a.map D.str ++ [.str w] = (a ++ [w]).map D.str := by simp
theorem join_loop {A B : Option D} : ∀ (ws acc : List Str) (p : Option D), acc.length + ws.length < 10000000 →
    ∃ p', forL (nameT 3) (ifS (op2 false (inS true) (slotO false 3) (slotO false 2)) (exS (appM 2 (consM (mT (slotE 3)) (ret [])))) nxS) (ws.map .str) [A, B, some (.lst true (acc.map .str)), p] = some (.nx [A, B, some (.lst true ((joinF acc ws).map .str)), p'])
  | [], acc, p, _ => ⟨p, rfl⟩
  | w :: ws, acc, p, h => by
    rw [joinF_cons, List.map_cons]
    by_cases hw : w ∈ acc
    · obtain ⟨p', ih⟩ := join_loop (A := A) (B := B) ws acc (some (.str w)) (by simp at h; omega)
      refine ⟨p', ?_⟩
      rw [if_pos hw, ← ih]
      simp [forL, hw]
    · obtain ⟨p', ih⟩ := join_loop (A := A) (B := B) ws (acc ++ [w]) (some (.str w)) (by simp at h ⊢; omega)
      refine ⟨p', ?_⟩
      have hz : acc.length < 10000000 := by simp at h; omega
      rw [if_neg hw, ← ih]
      simp [forL, hw, hz]
theorem p_joined {a b : List Str} (h : a.length + b.length < 10000000) : fjoined [nmD a, nmD b] = some (.ok (nmD (joinF a b)) []) := by
  obtain ⟨p', key⟩ := join_loop (A := some (nmD a)) (B := some (nmD b)) b a none h
  simp [fjoined, run, mjoined, key]
  simp [tupleS, nmD]
/-- lists behind a saying -/
def heF (ns : List Str) (ls : List (List Str)) (p : Str × Str) : List (List Str) := ls.set (plF ns p.2) (joinF (ls.getD (plF ns p.2) []) (ls.getD (plF ns p.1) []))
theorem heF_len (ns : List Str) (ls : List (List Str)) (p : Str × Str) : (heF ns ls p).length = ls.length := by simp [heF]
/-- a row's saying that may be said; lists that are not too long -/
structure SayOk (ns : List Str) (ties : List (Str × Str)) (p : Str × Str) : Prop where
  m1 : p.1 ∈ ns
  m2 : p.2 ∈ ns
  t : tied ties p.1 p.2 = true
theorem ixN_nat {n i : Nat} (h : i < n) : L2.ixN n (i : Int) = some i := by
  unfold L2.ixN
  rw [if_pos (by omega), if_pos (by omega)]
  rfl
theorem p_heard {ns : List Str} {ties : List (Str × Str)} {ls : List (List Str)} {p : Str × Str} (h1 : ties.length ≤ 1000) (h2 : ns.length ≤ 1000) (hl : ls.length = ns.length) (hp : SayOk ns ties p) (hz : ∀ l ∈ ls, l.length ≤ 1000000) :
    fheard [trD ns ties, stD ls, saD p] = some (.ok (stD (heF ns ls p)) []) := by
  have i1 := (plF_mem hp.m1).2
  have i2 := (plF_mem hp.m2).2
  rw [← hl] at i1 i2
  have g1 : ls.getD (plF ns p.1) [] = ls[plF ns p.1] := by simp [i1]
  have g2 : ls.getD (plF ns p.2) [] = ls[plF ns p.2] := by simp [i2]
  have z1 := hz _ (List.getElem_mem i1)
  have z2 := hz _ (List.getElem_mem i2)
  have z : ls[plF ns p.2].length + ls[plF ns p.1].length < 10000000 := by omega
  have lst : listS [stD ls] = some (.lst true (ls.map nmD)) := rfl
  have ms : ∀ (x : List Str) (i : Nat), (ls.map nmD).set i (nmD x) = (ls.set i x).map nmD := fun x i => by rw [List.map_set]
  simp [-List.map_set, ms, fheard, run, mheard, p_look_saying h1 hp.t, p_place_of hp.m1, p_place_of hp.m2, p_as_stand (show ls.length ≤ 1000 by omega), lst, i1, i2, p_joined z, ixN_nat]
  simp [-List.map_set, ms, heF, stD, tupleS, i1, i2]
end Z

set_option Elab.async false
set_option linter.all false
set_option maxRecDepth 100000
set_option maxHeartbeats 400000
/-! P3: rows. -/
namespace Z
open PySem
theorem nodup_len : ∀ {l W : List Str}, l.Nodup → (∀ x ∈ l, x ∈ W) → l.length ≤ W.length
  | [], _, _, _ => Nat.zero_le _
  | x :: l, W, h, s => by
    have h' := List.nodup_cons.mp h
    have hx := s x List.mem_cons_self
    have ih := nodup_len (l := l) (W := W.erase x) h'.2 fun y hy => by
      refine (List.mem_erase_of_ne fun e => ?_).mpr (s y (List.mem_cons_of_mem _ hy))
      subst e
      exact h'.1 hy
    rw [List.length_erase_of_mem hx] at ih
    have : 0 < W.length := List.length_pos_of_mem hx
    simp only [List.length_cons]
    omega
theorem joinF_nodup : ∀ {b a : List Str}, a.Nodup → (joinF a b).Nodup
  | [], _, h => h
  | w :: b, a, h => by
    rw [joinF_cons]
    by_cases hw : w ∈ a
    · rw [if_pos hw]; exact joinF_nodup h
    · rw [if_neg hw]
      refine joinF_nodup (List.nodup_append.mpr ⟨h, by simp, fun x hx y hy e => ?_⟩)
      simp at hy
      subst e hy
      exact hw hx
theorem mem_joinF : ∀ {b a : List Str} {x : Str}, x ∈ joinF a b ↔ x ∈ a ∨ x ∈ b
  | [], a, x => by simp [joinF]
  | w :: b, a, x => by
    rw [joinF_cons, mem_joinF]
    by_cases hw : w ∈ a
    · rw [if_pos hw, List.mem_cons]
      constructor
      · rintro (h | h)
        · exact .inl h
        · exact .inr (.inr h)
      · rintro (h | h | h)
        · exact .inl h
        · subst h; exact .inl hw
        · exact .inr h
    · rw [if_neg hw, List.mem_append, List.mem_singleton, List.mem_cons, or_assoc]
/-- lists of unlike words of W, one for each name -/
structure StOk (ns W : List Str) (ls : List (List Str)) : Prop where
  len : ls.length = ns.length
  nd : ∀ l ∈ ls, l.Nodup
  sub : ∀ l ∈ ls, ∀ x ∈ l, x ∈ W
theorem StOk.getD {ns W : List Str} {ls : List (List Str)} (h : StOk ns W ls) (i : Nat) : (ls.getD i []).Nodup ∧ ∀ x ∈ ls.getD i [], x ∈ W := by
  by_cases hi : i < ls.length
  · have e : ls.getD i [] = ls[i] := by simp [hi]
    rw [e]
    exact ⟨h.nd _ (List.getElem_mem hi), h.sub _ (List.getElem_mem hi)⟩
  · have e : ls.getD i [] = [] := by simp [List.getElem?_eq_none (Nat.le_of_not_lt hi)]
    rw [e]
    simp
theorem StOk.he {ns W : List Str} {ls : List (List Str)} (h : StOk ns W ls) (p : Str × Str) : StOk ns W (heF ns ls p) := by
  refine ⟨by rw [heF_len, h.len], fun l hl => ?_, fun l hl x hx => ?_⟩
  · rcases List.mem_or_eq_of_mem_set hl with hl | hl
    · exact h.nd l hl
    · rw [hl]; exact joinF_nodup (h.getD _).1
  · rcases List.mem_or_eq_of_mem_set hl with hl | hl
    · exact h.sub l hl x hx
    · rw [hl] at hx
      rcases mem_joinF.mp hx with hx | hx
      · exact (h.getD _).2 x hx
      · exact (h.getD _).2 x hx
theorem StOk.small {ns W : List Str} {ls : List (List Str)} (h : StOk ns W ls) (hW : W.length ≤ 1000) : ∀ l ∈ ls, l.length ≤ 1000000 := fun l hl => by
  have := nodup_len (h.nd l hl) (h.sub l hl)
  omega
def doF (ns : List Str) (ls : List (List Str)) (row : List (Str × Str)) : List (List Str) := row.foldl (heF ns) ls
theorem StOk.do_ {ns W : List Str} : ∀ {row : List (Str × Str)} {ls : List (List Str)}, StOk ns W ls → StOk ns W (doF ns ls row)
  | [], _, h => h
  | p :: row, _, h => StOk.do_ (row := row) (h.he p)
/-- a tree that is not too great -/
structure TrOk (ns : List Str) (ties : List (Str × Str)) (W : List Str) : Prop where
  t : ties.length ≤ 1000
  n : ns.length ≤ 1000
  w : W.length ≤ 1000
theorem p_heard' {ns W : List Str} {ties : List (Str × Str)} {ls : List (List Str)} {p : Str × Str} (hT : TrOk ns ties W) (h : StOk ns W ls) (hp : SayOk ns ties p) : fheard [trD ns ties, stD ls, saD p] = some (.ok (stD (heF ns ls p)) []) :=
  p_heard hT.t hT.n h.len hp (h.small hT.w)
theorem done_loop {ns W : List Str} {ties : List (Str × Str)} (hT : TrOk ns ties W) {B C : Option D} : ∀ (row : List (Str × Str)) (ls : List (List Str)) (p : Option D), StOk ns W ls → (∀ q ∈ row, SayOk ns ties q) →
    ∃ p', forL (nameT 4) (setS 3 (cax0 fheard (consM (slotO false 0) (consM (slotO false 3) (consM (slotO false 4) (ret [])))))) (row.map saD) [some (trD ns ties), B, C, some (stD ls), p] = some (.nx [some (trD ns ties), B, C, some (stD (doF ns ls row)), p'])
  | [], ls, p, _, _ => ⟨p, rfl⟩
  | q :: row, ls, p, h, hr => by
    obtain ⟨p', ih⟩ := done_loop hT (B := B) (C := C) row (heF ns ls q) (some (saD q)) (h.he q) fun x hx => hr x (List.mem_cons_of_mem _ hx)
    refine ⟨p', ?_⟩
    have e := p_heard' hT h (hr q List.mem_cons_self)
    show _ = some (Out.nx [some (trD ns ties), B, C, some (stD (doF ns (heF ns ls q) row)), p'])
    rw [← ih]
    simp [forL, e]
theorem p_done {ns W : List Str} {ties : List (Str × Str)} {ls : List (List Str)} {row : List (Str × Str)} (hT : TrOk ns ties W) (h : StOk ns W ls) (hr : ∀ q ∈ row, SayOk ns ties q) : fdone [trD ns ties, stD ls, rwD false row] = some (.ok (stD (doF ns ls row)) []) := by
  obtain ⟨p', key⟩ := done_loop hT (B := some (stD ls)) (C := some (rwD false row)) row ls none h hr
  have l1 : ls.length ≤ 1000 := by have := h.len; have := hT.n; omega
  simp [fdone, run, mdone, p_as_stand l1, key]
theorem p_led {ns W : List Str} {ties : List (Str × Str)} {ls : List (List Str)} {row : List (Str × Str)} (hT : TrOk ns ties W) (h : StOk ns W ls) (hr : ∀ q ∈ row, SayOk ns ties q) : fled [trD ns ties, stD ls, rwD false row] = some (.ok (stD (doF ns ls row)) []) := by
  obtain ⟨p', key⟩ := done_loop hT (B := some (stD ls)) (C := some (rwD false row)) row ls none h hr
  have l1 : ls.length ≤ 1000 := by have := h.len; have := hT.n; omega
  simp [fled, run, mled, p_as_stand l1, key]
/-! ### maps -/
def byNF (ns : List Str) (ls : List (List Str)) (names : List Str) (here : List Str) : List Str := names.foldl (fun here n => joinF here (ls.getD (plF ns n) [])) here
def byF (ns : List Str) (ls st : List (List Str)) : List (List Str) := st.map fun names => byNF ns ls names []
theorem by_in {ns W : List Str} {ties : List (Str × Str)} {ls : List (List Str)} (hT : TrOk ns ties W) (h : StOk ns W ls) {C Dd E : Option D} : ∀ (names here : List Str) (p : Option D), (∀ n ∈ names, n ∈ ns) → here.Nodup → (∀ x ∈ here, x ∈ W) →
    ∃ p', forL (nameT 6) (setS 5 (call0 fjoined (consM (slotO false 5) (consM (mT (op2 true idxS (slotO true 1) (mK (call0 fplace_of (consM (slotO false 0) (consM (slotO false 6) (ret []))))))) (ret []))))) (names.map .str)
      [some (trD ns ties), some (stD ls), C, Dd, E, some (nmD here), p] = some (.nx [some (trD ns ties), some (stD ls), C, Dd, E, some (nmD (byNF ns ls names here)), p'])
  | [], here, p, _, _, _ => ⟨p, rfl⟩
  | n :: names, here, p, hn, hd, hs => by
    have m := hn n List.mem_cons_self
    have i1 := (plF_mem m).2
    rw [← h.len] at i1
    have g1 : ls.getD (plF ns n) [] = ls[plF ns n] := by simp [i1]
    obtain ⟨p', ih⟩ := by_in hT h (C := C) (Dd := Dd) (E := E) names (joinF here (ls.getD (plF ns n) [])) (some (.str n)) (fun x hx => hn x (List.mem_cons_of_mem _ hx)) (joinF_nodup hd) (fun x hx => by
      rcases mem_joinF.mp hx with hx | hx
      · exact hs x hx
      · exact (h.getD _).2 x hx)
    refine ⟨p', ?_⟩
    show _ = some (Out.nx [some (trD ns ties), some (stD ls), C, Dd, E, some (nmD (byNF ns ls names (joinF here (ls.getD (plF ns n) [])))), p'])
    rw [← ih, g1]
    have z1 := nodup_len hd hs
    have z2 := h.small hT.w _ (List.getElem_mem i1)
    have z := hT.w
    have e := p_joined (show here.length + (ls[plF ns n]).length < 10000000 by omega)
    simp [forL, p_place_of m, i1, e]
theorem byNF_ok {ns W : List Str} {ls : List (List Str)} (h : StOk ns W ls) : ∀ {names here : List Str}, here.Nodup → (∀ x ∈ here, x ∈ W) → (byNF ns ls names here).Nodup ∧ ∀ x ∈ byNF ns ls names here, x ∈ W
  | [], here, h1, h2 => ⟨h1, h2⟩
  | n :: names, here, h1, h2 => byNF_ok h (names := names) (joinF_nodup h1) fun x hx => by
    rcases mem_joinF.mp hx with hx | hx
    · exact h2 x hx
    · exact (h.getD _).2 x hx
theorem by_out {ns W : List Str} {ties : List (Str × Str)} {ls : List (List Str)} (hT : TrOk ns ties W) (h : StOk ns W ls) {C : Option D} : ∀ (st acc : List (List Str)) (p5 p6 p7 : Option D), (∀ names ∈ st, ∀ n ∈ names, n ∈ ns) → acc.length + st.length < 10000000 →
    ∃ q5 q6 q7, forL (nameT 4) (seqS (setS 5 (tupM (ret [])))
    (seqS (forS (srcSeq (slotE 4)) (nameT 6) (setS 5 (call0 fjoined (consM (slotO false 5) (consM (mT (op2 true idxS (slotO true 1) (mK (call0 fplace_of (consM (slotO false 0) (consM (slotO false 6) (ret []))))))) (ret []))))))
    (exS (appM 3 (consM (mT (slotE 5)) (ret [])))))) (st.map nmD) [some (trD ns ties), some (stD ls), C, some (.lst true (acc.map nmD)), p5, p6, p7] = some (.nx [some (trD ns ties), some (stD ls), C, some (.lst true ((acc ++ byF ns ls st).map nmD)), q5, q6, q7])
  | [], acc, p5, p6, p7, _, _ => ⟨p5, p6, p7, by simp [byF]⟩
  | names :: st, acc, p5, p6, p7, hn, hz => by
    obtain ⟨p', e⟩ := by_in hT h (C := C) (Dd := some (.lst true (acc.map nmD))) (E := some (nmD names)) names [] p7 (hn names List.mem_cons_self) (by simp) (by simp)
    obtain ⟨q5, q6, q7, ih⟩ := by_out hT h (C := C) st (acc ++ [byNF ns ls names []]) (some (nmD names)) (some (nmD (byNF ns ls names []))) p' (fun x hx => hn x (List.mem_cons_of_mem _ hx)) (by simp at hz ⊢; omega)
    refine ⟨q5, q6, q7, ?_⟩
    have z : acc.length < 10000000 := by simp at hz; omega
    have e1 : acc ++ byF ns ls (names :: st) = (acc ++ [byNF ns ls names []]) ++ byF ns ls st := by simp [byF]
    rw [e1, ← ih]
    have e2 : (nmD [] : D) = .tup [] := rfl
    rw [e2] at e
    simp [forL, e, z]
theorem p_by_stand {ns W : List Str} {ties : List (Str × Str)} {ls st : List (List Str)} (hT : TrOk ns ties W) (h : StOk ns W ls) (hs : ∀ names ∈ st, ∀ n ∈ names, n ∈ ns) (hz : st.length ≤ 1000) : fby_stand [trD ns ties, stD ls, stD st] = some (.ok (stD (byF ns ls st)) []) := by
  obtain ⟨q5, q6, q7, key⟩ := by_out hT h (C := some (stD st)) st [] none none none hs (by simp; omega)
  rw [List.nil_append, List.map_nil] at key
  simp [fby_stand, run, mby_stand, key]
  simp [tupleS, stD]
theorem p_put {ns W : List Str} {ties : List (Str × Str)} {ls st : List (List Str)} (hT : TrOk ns ties W) (h : StOk ns W ls) (hs : ∀ names ∈ st, ∀ n ∈ names, n ∈ ns) (hz : st.length ≤ 1000) : fput [trD ns ties, stD ls, stD st] = some (.ok (stD (byF ns ls st)) []) := by
  simp [fput, run, mput, p_by_stand hT h hs hz]
def baF (ns : List Str) : List (List Str) := ns.map fun n => [n]
theorem baF_ok {ns W : List Str} (h : ∀ n ∈ ns, n ∈ W) : StOk ns W (baF ns) := ⟨by simp [baF], fun l hl => by
  obtain ⟨n, _, rfl⟩ := List.mem_map.mp hl
  simp, fun l hl x hx => by
  obtain ⟨n, hn, rfl⟩ := List.mem_map.mp hl
  simp at hx
  rw [hx]; exact h n hn⟩
theorem p_are_alike {ns : List Str} {ties : List (Str × Str)} {row row' : List (Str × Str)} (hT : TrOk ns ties ns) (h1 : ∀ q ∈ row, SayOk ns ties q) (h2 : ∀ q ∈ row', SayOk ns ties q) :
    fare_alike [trD ns ties, rwD false row, rwD false row'] = some (.ok (.bl (decide (doF ns (baF ns) row = doF ns (baF ns) row'))) []) := by
  have e := p_bare (ties := ties) hT.n
  have e1 := p_done hT (baF_ok fun _ h => h) h1
  have e2 := p_done hT (baF_ok fun _ h => h) h2
  unfold baF at e1 e2
  simp [fare_alike, run, mare_alike, e, e1, e2, baF]
  exact decide_eq_decide.mpr Iff.rfl
/-- so many goings at most -/
def goF (ns : List Str) (row : List (Str × Str)) (many : Int) : Nat → List (List Str) → Int → Int × List (List Str)
  | 0, here, often => (often, here)
  | n + 1, here, often => if often < many ∧ doF ns here row ≠ here then goF ns row many n (doF ns here row) (often + 1) else (often, here)
/-- it has come to its end -/
def goE (ns : List Str) (row : List (Str × Str)) (many : Int) (r : Int × List (List Str)) : Prop := ¬ (r.1 < many ∧ doF ns r.2 row ≠ r.2)
def goW : M D := andM (op2 false ltS (slotO false 4) (slotO false 2)) (op2 false neS (slotO false 5) (slotO false 3))
def goB : MS := seqS (par2 3 4 (consM (mT (slotE 5)) (consM (mT (op2 true addS (slotO true 4) (mK (ret (.int 1))))) (ret []))))
    (setS 5 (cax0 fdone (consM (slotO false 0) (consM (slotO false 3) (consM (slotO false 1) (ret []))))))
theorem go_loop {ns : List Str} {ties : List (Str × Str)} {row : List (Str × Str)} {many : Int} (hT : TrOk ns ties ns) (hr : ∀ q ∈ row, SayOk ns ties q) : ∀ (k n : Nat) (here : List (List Str)) (often : Int), StOk ns ns here → goE ns row many (goF ns row many k here often) → k < n →
    whileS goW goB n [some (trD ns ties), some (rwD false row), some (.int many), some (stD here), some (.int often), some (stD (doF ns here row))] =
      some (.nx [some (trD ns ties), some (rwD false row), some (.int many), some (stD (goF ns row many k here often).2), some (.int (goF ns row many k here often).1), some (stD (doF ns (goF ns row many k here often).2 row))])
  | _, 0, _, _, _, _, hn => absurd hn (Nat.not_lt_zero _)
  | k, n + 1, here, often, h, he, hn => by
    by_cases hc : often < many ∧ doF ns here row ≠ here
    · cases k with
      | zero => exact absurd hc he
      | succ k =>
        have hs : goF ns row many (k + 1) here often = goF ns row many k (doF ns here row) (often + 1) := by
          show (if _ then _ else _) = _
          rw [if_pos hc]
        rw [hs] at he ⊢
        have ih := go_loop hT hr k n (doF ns here row) (often + 1) h.do_ he (by omega)
        have e := p_done hT (h.do_ (row := row)) hr
        rw [← ih]
        simp [whileS, goW, goB, ltS, ltD, addS, hc.1, hc.2, e]
    · have hs : goF ns row many k here often = (often, here) := by
        cases k with
        | zero => rfl
        | succ k =>
          show (if _ then _ else _) = _
          rw [if_neg hc]
      rw [hs]
      by_cases h1 : often < many
      · have h2 : doF ns here row = here := by
          by_cases q : doF ns here row = here
          · exact q
          · exact absurd ⟨h1, q⟩ hc
        simp [whileS, goW, ltS, ltD, h1, h2]
      · simp [whileS, goW, ltS, ltD, h1]
theorem p_gone_on {ns : List Str} {ties : List (Str × Str)} {row : List (Str × Str)} {many : Int} (k : Nat) (hT : TrOk ns ties ns) (hr : ∀ q ∈ row, SayOk ns ties q) (hk : k < 100000) (he : goE ns row many (goF ns row many k (baF ns) 0)) :
    fgone_on [trD ns ties, rwD false row, .int many] = some (.ok (.tup [.int (goF ns row many k (baF ns) 0).1, stD (goF ns row many k (baF ns) 0).2]) []) := by
  have b := baF_ok (ns := ns) (W := ns) fun _ h => h
  have key := go_loop hT hr k 100000 (baF ns) 0 b he hk
  have e := p_bare (ties := ties) hT.n
  have e1 := p_done hT b hr
  unfold goW goB at key
  unfold baF at key e1
  simp [fgone_on, run, mgone_on, e, e1, key, baF]
theorem lenS_nm (l : List Str) : lenS [nmD l] = some (.int l.length) := by
  show some (D.int ((l.map D.str).length : Nat)) = _
  rw [List.length_map]
theorem p_rest_of {ns : List Str} {ties : List (Str × Str)} {row : List (Str × Str)} (k : Nat) (hT : TrOk ns ties ns) (hr : ∀ q ∈ row, SayOk ns ties q) (hk : k < 100000) (he : goE ns row ((ns.length : Int) ^ 2) (goF ns row ((ns.length : Int) ^ 2) k (baF ns) 0)) :
    frest_of [trD ns ties, rwD false row] = some (.ok (.tup [.int (goF ns row ((ns.length : Int) ^ 2) k (baF ns) 0).1, stD (goF ns row ((ns.length : Int) ^ 2) k (baF ns) 0).2]) []) := by
  have e := p_gone_on k hT hr hk he
  have z : ns.length < 18446744073709551616 := by have := hT.n; omega
  have pw : powS [.int (ns.length : Int), .int 2] = some (.int ((ns.length : Int) ^ 2)) := by
    simp [powS, z]
  simp [frest_of, run, mrest_of, lenS_nm, pw, e]
theorem p_far {ns : List Str} {ties : List (Str × Str)} {row : List (Str × Str)} {many : Int} (k : Nat) (hT : TrOk ns ties ns) (hr : ∀ q ∈ row, SayOk ns ties q) (hk : k < 100000) (he : goE ns row many (goF ns row many k (baF ns) 0)) :
    ffar [trD ns ties, rwD false row, .int many] = some (.ok (stD (goF ns row many k (baF ns) 0).2) []) := by
  have e := p_gone_on k hT hr hk he
  have i := idx_tup [.int (goF ns row many k (baF ns) 0).1, stD (goF ns row many k (baF ns) 0).2] 1
  simp at i
  simp [ffar, run, mfar, e, i]
end Z

set_option Elab.async false
set_option linter.all false
set_option maxRecDepth 100000
set_option maxHeartbeats 400000
/-! P4: what is drawn. -/
namespace Z
open PySem
/-- what is drawn from, behind so many draws at most -/
def BoxOk (n : Int) (d : D) : Prop := ∃ big seed cnt : Int, d = .lst true [.int big, .int seed, .int cnt] ∧ 0 ≤ big ∧ 0 ≤ seed ∧ seed < 2147483647 ∧ 0 ≤ cnt ∧ cnt ≤ n
theorem BoxOk.mono {n m : Int} {d : D} (h : BoxOk n d) (k : n ≤ m) : BoxOk m d := by
  obtain ⟨b, s, c, e, h1, h2, h3, h4, h5⟩ := h
  exact ⟨b, s, c, e, h1, h2, h3, h4, by omega⟩
theorem BoxOk.own {n : Int} {d : D} (h : BoxOk n d) : allOwn d = true := by
  obtain ⟨b, s, c, rfl, _⟩ := h
  rfl
theorem p_take {n size : Int} {d : D} (k : Nat) (h : BoxOk n d) (hn : n ≤ 1000000000) (h1 : 0 < size) (h2 : size ≤ 10000000) : ∃ v d', f_law_take (k + 1) [d, .int size] = some (.ok (.int v) [d']) ∧ 0 ≤ v ∧ v < size ∧ BoxOk (n + 1) d' := by
  obtain ⟨big, seed, cnt, rfl, hb, hs, hs2, hc, hc2⟩ := h
  by_cases q : 0 < big
  · refine ⟨big % size, _, ?_, Int.emod_nonneg _ (by omega), Int.emod_lt_of_pos _ h1, big / size, seed, cnt, rfl, Int.ediv_nonneg hb (by omega), hs, hs2, hc, by omega⟩
    have e := divmod_int (i := big) (j := size) ⟨h1, by omega⟩
    simp [f_law_take, run, m_law_take, idx_l0, q, e, L2.ixN]
  · have z : big = 0 := by omega
    subst z
    have e1 := mul_int (i := cnt + 1) (j := cnt + 1) (.inl (by omega))
    have e2 := mul_int (i := 39373) (j := cnt + 1) (.inl (by omega))
    have nb : ¬ (10000000 < size) := by omega
    have e3 := mul_int (i := seed + 39373 * (cnt + 1)) (j := 69621 + (cnt + 1) * (cnt + 1)) (.inl (by omega))
    have e4 := mod_int (i := (seed + 39373 * (cnt + 1)) * (69621 + (cnt + 1) * (cnt + 1))) (j := 2147483587) (by omega)
    have hx : ∃ x, (seed + 39373 * (cnt + 1)) * (69621 + (cnt + 1) * (cnt + 1)) % 2147483587 = x := ⟨_, rfl⟩
    obtain ⟨x, hx⟩ := hx
    rw [hx] at e4
    have e5 := mod_int (i := x) (j := 30011) (by omega)
    have e6 := mul_int (i := x) (j := x % 30011 + 5) (.inr (by omega))
    have e7 := mod_int (i := x * (x % 30011 + 5) + (cnt + 1)) (j := 2147483563) (by omega)
    have hy : ∃ y, (x * (x % 30011 + 5) + (cnt + 1)) % 2147483563 = y := ⟨_, rfl⟩
    obtain ⟨y, hy⟩ := hy
    rw [hy] at e7
    have e8 := mod_int (i := y) (j := 1013) (by omega)
    have e9 := mul_int (i := y) (j := y % 1013 + 3) (.inr (by omega))
    have e10 := mod_int (i := y * (y % 1013 + 3)) (j := 998244353) (by omega)
    have e11 := fdiv_int (i := y * (y % 1013 + 3) % 998244353) (j := 16) (by omega)
    have e12 := mod_int (i := y * (y % 1013 + 3) % 998244353 / 16) (j := size) h1
    refine ⟨y * (y % 1013 + 3) % 998244353 / 16 % size, .lst true [.int 0, .int seed, .int (cnt + 1)], ?_, Int.emod_nonneg _ (by omega), Int.emod_lt_of_pos _ h1, 0, seed, cnt + 1, rfl, by omega, hs, hs2, by omega, by omega⟩
    simp [f_law_take, run, m_law_take, idx_l0, idx_l1, idx_l2, L2.ixN, nb, e1, e2, e3, e4, e5, e6, e7, e8, e9, e10, e11, e12]
end Z

set_option Elab.async false
set_option linter.all false
set_option maxRecDepth 100000
set_option maxHeartbeats 400000
/-! P5: boxes, cells, alike. -/
namespace Z
open PySem
theorem idx_lstI (o : Bool) (cs : List Int) (k : Nat) (h : k < cs.length) : idxS [.lst o (cs.map .int), .int (k : Int)] = some (.int cs[k]) := by
  rw [idx_lst, List.getElem?_map, List.getElem?_eq_getElem h]
  rfl
theorem noOwns_ints (l : List Int) : noOwns (l.map .int) = true := by
  induction l with
  | nil => rfl
  | cons a l ih => simp [noOwns, noOwn, ih]
theorem lenS_lst (o : Bool) (l : List D) : lenS [.lst o l] = some (.int l.length) := rfl
theorem p_box (cs : List Int) (k : Nat) (hk : k ≤ 1000) : ∃ d, f_law_box [.lst false (cs.map .int), .int (k : Int)] = some (.ok d []) ∧ BoxOk 0 d := by
  have no := noOwns_ints cs
  obtain ⟨cell, hcell⟩ : ∃ cell : Int, (if h : k < cs.length then cs[k] else 0) = cell := ⟨_, rfl⟩
  obtain ⟨ab, hab⟩ : ∃ ab : Int, (if cell < 0 then -cell else cell) = ab := ⟨_, rfl⟩
  have hab0 : 0 ≤ ab := by rw [← hab]; split <;> omega
  have e1 := mod_int (i := cell) (j := 2147483629) (by omega)
  have e2 := mul_int (i := 15485863) (j := (k : Int)) (.inr (by omega))
  have e3 := mul_int (i := cell % 2147483629 + 15485863 * (k : Int) + 43) (j := 48271) (.inr (by omega))
  have e4 := mod_int (i := (cell % 2147483629 + 15485863 * (k : Int) + 43) * 48271) (j := 2147483647) (by omega)
  obtain ⟨one, hone⟩ : ∃ one : Int, (if ab < 1000000000000000000 then 0 else 1) = one := ⟨_, rfl⟩
  have ho : 0 ≤ one ∧ one ≤ 1 := by rw [← hone]; split <;> omega
  have e5 := mul_int (i := ab) (j := one) (.inr (by omega))
  have e6 : intS [.bl (!decide (ab < 1000000000000000000))] = some (.int one) := by
    rw [int_bl, ← hone]
    by_cases q : ab < 1000000000000000000 <;> simp [q]
  refine ⟨.lst true [.int (ab * one), .int ((cell % 2147483629 + 15485863 * (k : Int) + 43) * 48271 % 2147483647), .int 0], ?_, _, _, _, rfl, Int.mul_nonneg hab0 ho.1, Int.emod_nonneg _ (by omega), Int.emod_lt_of_pos _ (by omega), Int.le_refl _, Int.le_refl _⟩
  by_cases h : k < cs.length
  · rw [dif_pos h] at hcell
    have i1 := idx_lstI false cs k h
    rw [hcell] at i1
    have hl : (k : Int) < (cs.length : Int) := by omega
    simp [f_law_box, run, m_law_box, lenS_lst, hl, no, i1, hab, e1, e2, e3, e4, e5, e6]
  · rw [dif_neg h] at hcell
    have hl : ¬ (k : Int) < (cs.length : Int) := by omega
    subst hcell
    simp at hab e1 e3 e4
    subst hab
    simp at hone
    subst hone
    simp at e5 e6
    simp [f_law_box, run, m_law_box, lenS_lst, hl, no, e1, e2, e3, e4, e5, e6]
/-! ### alike -/
mutual
/-- lists, tuples, texts, whole numbers, truths, nothing of them owned, n deep at most -/
def dd : Nat → D → Bool
  | _, .bl _ | _, .int _ | _, .str _ => true
  | n + 1, .tup l => decide (l.length ≤ 1000) && dds n l
  | n + 1, .lst o l => !o && decide (l.length ≤ 1000) && dds n l
  | _, _ => false
def dds : Nat → List D → Bool
  | _, [] => true
  | n, d :: r => dd n d && dds n r
end
theorem dds_noOwn : ∀ {n : Nat} {l : List D}, dds n l = true → noOwns l = true := by
  have key : ∀ n, (∀ d, dd n d = true → noOwn d = true) ∧ ∀ l, dds n l = true → noOwns l = true := by
    intro n
    induction n with
    | zero =>
      have h1 : ∀ d, dd 0 d = true → noOwn d = true := fun d h => by cases d <;> simp [dd] at h <;> rfl
      refine ⟨h1, fun l => ?_⟩
      induction l with
      | nil => exact fun _ => rfl
      | cons d l ih => exact fun h => by simp [dds] at h; simp [h1 d h.1, ih h.2]
    | succ n ih0 =>
      have h1 : ∀ d, dd (n + 1) d = true → noOwn d = true := fun d h => by
        cases d with
        | tup l => simp [dd] at h; exact ih0.2 l h.2
        | lst o l => simp [dd] at h; simp [h.1, ih0.2 l h.2]
        | _ => first | rfl | simp [dd] at h
      refine ⟨h1, fun l => ?_⟩
      induction l with
      | nil => exact fun _ => rfl
      | cons d l ih => exact fun h => by simp [dds] at h; simp [h1 d h.1, ih h.2]
  exact fun {n l} => (key n).2 l
theorem dd_noOwn {n : Nat} {d : D} (h : dd n d = true) : noOwn d = true := by
  have : dds n [d] = true := by simp [dds, h]
  have := dds_noOwn this
  simpa using this
theorem dds_mem : ∀ {l : List D} {n : Nat} {d : D}, dds n l = true → d ∈ l → dd n d = true
  | x :: l, n, d, h, m => by
    simp [dds] at h
    rcases List.mem_cons.mp m with e | m
    · rw [e]; exact h.1
    · exact dds_mem h.2 m
theorem zw_self (l : List D) : List.zipWith (fun x y => D.tup [x, y]) l l = l.map fun x => .tup [x, x] := by
  induction l with
  | nil => rfl
  | cons a l ih => simp [ih]
@[simp] theorem isi_lt (d : D) : isiS [d, .tup [.ty "list", .ty "tuple"]] = (tyD d).bind fun t => some (.bl (isT t "list" || isT t "tuple")) := by
  simp [isiS, tysD, askT, isT]
@[simp] theorem eq_bl (a b : Bool) : eqS [.bl a, .bl b] = some (.bl (a == b)) := rfl
@[simp] theorem eq_str (a b : Str) : eqS [.str a, .str b] = some (.bl (a == b)) := rfl
@[simp] theorem ne_bl (a b : Bool) : neS [.bl a, .bl b] = some (.bl (!(a == b))) := rfl
theorem bls_true (l : List D) : allS [.lst true (l.map fun _ => D.bl true)] = some (.bl true) := by
  have : blsD (l.map fun _ => D.bl true) = some (l.map fun _ => true) := by
    induction l with
    | nil => rfl
    | cons a l ih => simp [blsD, ih]
  simp [allS, this]
def saG : MT := tupT (consT (nameT 2) (consT (nameT 3) nilT))
def saM (φ : List D → Option FR) : M D := call0 φ (consM (slotO false 2) (consM (slotO false 3) (ret [])))
theorem freezes_of {l : List D} (h : noOwns l = true) : freezes l = l := freezes_noOwn l h
theorem same_items {n : Nat} {d : D} (l : List D) (hl : dds n l = true) (ih : ∀ x ∈ l, f_law_same (n + 1) [x, x] = some (.ok (.bl true) [])) :
    lcL [2, 3] saG yesM (saM (f_law_same (n + 1))) (l.map fun x => .tup [x, x]) [some d, some d, none, none] = some (l.map fun _ => .bl true, [some d, some d, none, none]) := by
  have key := lcL_map (vs := [2, 3]) (g := saG) (m := saM (f_law_same (n + 1))) (r := [some d, some d, none, none]) (f := fun _ => .bl true) (ds := l.map fun x => .tup [x, x]) (fun y hy => by
    obtain ⟨x, hx, rfl⟩ := List.mem_map.mp hy
    have nx : freeze x = x := freeze_noOwn x (dd_noOwn (dds_mem hl hx))
    exact ⟨_, _, by simp [saG]; rfl, by simp [saM, nx, ih x hx]; rfl, by simp⟩)
  rw [key, List.map_map]
  rfl
theorem p_same : ∀ (n : Nat) (d : D), dd n d = true → f_law_same (n + 1) [d, d] = some (.ok (.bl true) [])
  | n, .int i, _ => by
    simp [f_law_same, run, m_law_same, isiS, tysD, askT, isT, tyD, isS]
  | n, .bl i, _ => by
    simp [f_law_same, run, m_law_same, isiS, tysD, askT, isT, tyD, isS]
  | n, .str i, _ => by
    simp [f_law_same, run, m_law_same, isiS, tysD, askT, isT, tyD, isS]
  | 0, .tup l, h => by simp [dd] at h
  | 0, .lst o l, h => by simp [dd] at h
  | n + 1, .tup l, h => by
    simp [dd] at h
    have no := dds_noOwn h.2
    have key := same_items (d := .tup l) l h.2 fun x hx => p_same n x (dds_mem h.2 hx)
    have z : l.length ≤ 10000000 := by omega
    unfold saG saM at key
    have b := bls_true l
    simp [f_law_same, run, m_law_same, isiS, tysD, askT, isT, tyD, isS, lenS, no, zw_self, z] at key ⊢
    simp [key, b]
  | n + 1, .lst o l, h => by
    simp [dd] at h
    obtain ⟨⟨rfl, h1⟩, h2⟩ := h
    have no := dds_noOwn h2
    have key := same_items (d := .lst false l) l h2 fun x hx => p_same n x (dds_mem h2 hx)
    have z : l.length ≤ 10000000 := by omega
    unfold saG saM at key
    have b := bls_true l
    simp [f_law_same, run, m_law_same, isiS, tysD, askT, isT, tyD, isS, lenS, no, zw_self, z] at key ⊢
    simp [key, b]
  | _, .non, h => by simp [dd] at h
  | _, .dct _ _ _, h => by simp [dd] at h
  | _, .ins _ _ _ _, h => by simp [dd] at h
  | _, .scr _, h => by simp [dd] at h
  | _, .ty _, h => by simp [dd] at h
  | _, .cls _, h => by simp [dd] at h
end Z

set_option Elab.async false
set_option linter.all false
set_option maxRecDepth 100000
set_option maxHeartbeats 400000
/-! P6: a script's cells; names. -/
namespace Z
open PySem
theorem fo_loop {A : Option D} {s : Nat} (hs : 0 < s) (hs2 : s ≤ 1000) : ∀ (items : List Int) (i : Nat) (cs : List Int) (p q : Option D), cs.length = s → i + items.length ≤ 1000000 →
    ∃ (cs' : List Int) (p' q' : Option D), cs'.length = s ∧ forL (tupT (consT (nameT 3) (consT (nameT 4) nilT))) (asgS (op2 true addS (mK (op2 true idxS (slotO true 2) (mK (op2 false modS (slotO false 3) (slotO false 1))))) (mK (op2 true mulS (slotO true 4) (mK (op2 true addS (slotO true 3) (mK (ret (.int 2)))))))) (subT 2 (mT (op2 false modS (slotO false 3) (slotO false 1)))))
      (enumD i (items.map .int)) [A, some (.int (s : Int)), some (.lst true (cs.map .int)), p, q] = some (.nx [A, some (.int (s : Int)), some (.lst true (cs'.map .int)), p', q'])
  | [], i, cs, p, q, h, _ => ⟨cs, p, q, h, rfl⟩
  | x :: items, i, cs, p, q, h, hz => by
    have e1 := mod_int (i := (i : Int)) (j := (s : Int)) (by omega)
    have im : (i : Int) % (s : Int) = ((i % s : Nat) : Int) := by omega
    rw [im] at e1
    have lt : i % s < cs.length := by rw [h]; exact Nat.mod_lt _ hs
    obtain ⟨j, hj⟩ : ∃ j, i % s = j := ⟨_, rfl⟩
    rw [hj] at e1 lt
    have e2 := idx_lstI true cs j lt
    have hz' : i + 1 + items.length ≤ 1000000 := by simp at hz; omega
    · have e3 := mul_int (i := x) (j := (i : Int) + 2) (.inr (by omega))
      obtain ⟨cs', p', q', h1, ih⟩ := fo_loop (A := A) hs hs2 items (i + 1) (cs.set j (cs[j] + x * ((i : Int) + 2))) (some (.int (i : Nat))) (some (.int x)) (by rw [List.length_set]; exact h) hz'
      refine ⟨cs', p', q', h1, ?_⟩
      rw [← ih]
      have no := noOwns_ints cs
      simp [enumD, forL, e1, e2, e3, no, ixN_nat (n := cs.length) lt, lt]
theorem cut_low (l : List Int) (s : Nat) : cutD (l.map D.int) none (some (s : Int)) = (l.take s).map D.int := by
  rw [cut_ints, HT.sIx_nat, HT.sIx_none, List.drop_zero, Nat.sub_zero]
  by_cases h : s ≤ l.length
  · rw [Nat.min_eq_left h]
  · rw [Nat.min_eq_right (by omega), List.take_of_length_le (Nat.le_refl _), List.take_of_length_le (by omega)]
theorem cut_ge (l : List Int) (s t : Nat) : ∃ l' : List Int, cutD (l.map D.int) (some (s : Int)) (some (t : Int)) = l'.map D.int ∧ l'.length ≤ l.length - s := by
  rw [cut_ints, HT.sIx_nat, HT.sIx_nat]
  refine ⟨_, rfl, ?_⟩
  rw [List.length_take, List.length_drop]
  omega
theorem p_folded {l : List Int} {s : Nat} (hs : 0 < s) (hs2 : s ≤ 1000) (hl : l.length ≤ 63) : ∃ cs : List Int, cs.length ≤ s ∧ f_law_folded [.scr l, .int (s : Int)] = some (.ok (.lst true (cs.map .int)) []) := by
  have c1 := cut_low l s
  obtain ⟨l', c2, h2⟩ := cut_ge l s 63
  have e1 : slcZ [.scr l, .non, .int (s : Int)] = some (.lst true ((l.take s).map D.int)) := by
    show slcS none (some (s : Int)) [.scr l] = _
    simp only [slcS, c1]
  have e2 : slcZ [.scr l, .int (s : Int), .int 63] = some (.lst true (l'.map D.int)) := by
    show slcS (some (s : Int)) (some (63 : Int)) [.scr l] = _
    simp only [slcS]
    exact congrArg (fun z => some (D.lst true z)) c2
  have n1 := noOwns_ints (l.take s)
  have n2 := noOwns_ints l'
  have ls (o : Bool) (x : List D) : listS [.lst o x] = some (.lst true x) := rfl
  by_cases hc : s ≤ l.length
  · obtain ⟨cs', p', q', h1, key⟩ := fo_loop (A := some (.scr l)) hs hs2 l' 0 (l.take s) none none (by rw [List.length_take]; omega) (by omega)
    refine ⟨cs', by omega, ?_⟩
    simp [-List.map_take, f_law_folded, run, m_law_folded, e1, e2, n1, n2, ls, key]
  · have l0 : l' = [] := List.eq_nil_of_length_eq_zero (by omega)
    subst l0
    refine ⟨l.take s, by rw [List.length_take]; omega, ?_⟩
    have k0 : knT (.lst true []) = .lst true [] := rfl
    simp [-List.map_take, f_law_folded, run, m_law_folded, e1, e2, n1, ls, enumD, k0]
end Z

set_option Elab.async false
set_option linter.all false
set_option maxRecDepth 100000
set_option maxHeartbeats 400000
/-! P7: names. -/
namespace Z
open PySem
def az : Str := "abcdefghijklmnopqrstuvwxyz"
/-- a letter -/
def le (i : Nat) : Str := ⟨#[97 + i]⟩
theorem az_get {i : Nat} (h : i < 26) : idxS [.str az, .int (i : Int)] = some (.str (le i)) := by
  have key : ∀ i : _root_.Fin 26, L2.atI az.cps.toList ((i : Nat) : Int) = some (97 + (i : Nat)) := by decide +kernel
  have z : az.cps.size ≤ 10000000 := by decide +kernel
  show (if az.cps.size ≤ 10000000 then (L2.atI az.cps.toList (i : Int)).map fun c => D.str ⟨#[c]⟩ else none) = _
  rw [if_pos z, key ⟨i, h⟩]
  rfl
theorem str_inj {a b c : Str} (h : a ++ b = a ++ c) : b = c := by
  have h1 : (a ++ b).cps = (a ++ c).cps := by rw [h]
  have h2 : a.cps ++ b.cps = a.cps ++ c.cps := h1
  have := Array.append_right_inj a.cps |>.mp h2
  cases b; cases c; simp_all
theorem stem_loop {A B C E1 E2 E3 E4 : Option D} {M : Option D} : ∀ (items : List D) (n : Int) (box : D) (p : Option D), BoxOk n box → n + items.length ≤ 1000000000 →
    ∃ (ss : List Str) (box' : D), ss.length = items.length ∧ (∀ s ∈ ss, ∃ c : Nat, (97 ≤ c ∧ c ≤ 122) ∧ s = ⟨#[c]⟩) ∧ BoxOk (n + items.length) box' ∧
      lcL [6] (nameT 6) yesM (op2 true idxS (slotO true 2) (mK (call1 (f_law_take 12) (consM (slotO false 0) (consM (mT (ret (.int 26))) (ret [])))))) items [some box, A, some (.str az), B, C, M, none, E1, E2, E3, E4] =
        some (ss.map .str, [some box', A, some (.str az), B, C, M, none, E1, E2, E3, E4])
  | [], n, box, p, h, _ => ⟨[], box, rfl, by simp, by simpa using h, rfl⟩
  | d :: items, n, box, p, h, hz => by
    simp at hz
    obtain ⟨v, box1, e1, v0, v1, h1⟩ := p_take (size := 26) 11 h (by omega) (by omega) (by omega)
    obtain ⟨i, rfl⟩ : ∃ i : Nat, v = (i : Int) := ⟨v.toNat, by omega⟩
    have e2 := az_get (i := i) (by omega)
    obtain ⟨ss, box', l1, l2, h2, ih⟩ := stem_loop (A := A) (B := B) (C := C) (E1 := E1) (E2 := E2) (E3 := E3) (E4 := E4) (M := M) items (n + 1) box1 p h1 (by omega)
    refine ⟨le i :: ss, box', by simp [l1], fun s hs => ?_, by simpa [Int.add_assoc, Int.add_comm 1] using h2, ?_⟩
    · rcases List.mem_cons.mp hs with e | hs
      · exact ⟨97 + i, by omega, e⟩
      · exact l2 s hs
    · have ao := h1.own
      simp [lcL, e1, e2, ao, ih]
end Z

set_option Elab.async false
set_option linter.all false
set_option maxRecDepth 100000
set_option maxHeartbeats 400000
/-! P8: names, unlike. -/
namespace Z
open PySem
def nmX (f st lg k : Nat) : Str := le ((f + st * (if lg = 1 then k / 2 else k)) % 26)
def sfX (lg k : Nat) : Str := if lg = 1 ∧ k % 2 = 1 then "ab" else ""
def naX (stem : Str) (f st lg k : Nat) : Str := stem ++ nmX f st lg k ++ sfX lg k
theorem len_app (a b : Str) : (a ++ b).length = a.length + b.length := by
  show (a.cps ++ b.cps).size = _
  rw [Array.size_append]
  rfl
theorem app_assoc (a b c : Str) : a ++ b ++ c = a ++ (b ++ c) := by
  show Str.mk (a.cps ++ b.cps ++ c.cps) = Str.mk (a.cps ++ (b.cps ++ c.cps))
  rw [Array.append_assoc]
theorem add_str {s t : Str} (h : s.length + t.length ≤ 10000000) : addS [.str s, .str t] = some (.str (s ++ t)) := by simp only [addS, if_pos h]
theorem mul_ab (b : Bool) : mulS [.str "ab", .int (if b then 1 else 0)] = some (.str (if b then "ab" else "")) := by
  cases b with
  | true =>
    have : repS "ab" 1 = ("ab" : Str) := by decide
    have z : ("ab" : Str).length ≤ 16 := by decide
    simp [mulS, this, z]
  | false =>
    have : repS "ab" 0 = ("" : Str) := by decide
    have z : ("ab" : Str).length ≤ 16 := by decide
    simp [mulS, this, z]
theorem na_loop {A M T : Option D} {stem : Str} {f st lg : Nat} (hs : stem.length ≤ 1000) (hf : f < 26) (hst : st ≤ 25) : ∀ (ks : List Nat) (acc : List Str) (p q : Option D), acc.length + ks.length < 10000000 →
    ∃ (p' q' : Option D), forL (nameT 9) (seqS (setS 10 (op2 true idxS (slotO true 2) (mK (op2 false modS (mT (op2 true addS (slotO true 3) (mK (op2 true mulS (slotO true 7) (mK (ifM (op2 false eqS (slotO false 8) (mT (ret (.int 1)))) (op2 false fdivS (slotO false 9) (mT (ret (.int 2)))) (slotE 9))))))) (mT (ret (.int 26)))))))
    (exS (appM 4 (consM (mT (op2 true addS (mK (op2 true addS (slotO true 5) (slotO true 10))) (mK (op2 true mulS (mK (ret (.str "ab"))) (mK (opN false intS (consM (mT (andM (op2 false eqS (slotO false 8) (mT (ret (.int 1)))) (op2 false eqS (mT (op2 false modS (slotO false 9) (mT (ret (.int 2))))) (mT (ret (.int 1)))))) (ret [])))))))) (ret [])))))
      (ks.map fun i : Nat => D.int (0 + (i : Int))) [A, M, some (.str az), some (.int (f : Int)), some (.lst true (acc.map .str)), some (.str stem), T, some (.int (st : Int)), some (.int (lg : Int)), p, q] =
      some (.nx [A, M, some (.str az), some (.int (f : Int)), some (.lst true ((acc ++ ks.map (naX stem f st lg)).map .str)), some (.str stem), T, some (.int (st : Int)), some (.int (lg : Int)), p', q'])
  | [], acc, p, q, _ => ⟨p, q, by simp⟩
  | k :: ks, acc, p, q, hz => by
    simp at hz
    obtain ⟨p', q', ih⟩ := na_loop (A := A) (M := M) (T := T) (lg := lg) hs hf hst ks (acc ++ [naX stem f st lg k]) (some (.int (0 + (k : Int)))) (some (.str (nmX f st lg k))) (by simp; omega)
    refine ⟨p', q', ?_⟩
    have hacc : acc ++ (k :: ks).map (naX stem f st lg) = (acc ++ [naX stem f st lg k]) ++ ks.map (naX stem f st lg) := by simp
    rw [hacc, ← ih]
    have z : acc.length < 10000000 := by omega
    have l1 : (nmX f st lg k).length = 1 := rfl
    have a1 := add_str (s := stem) (t := nmX f st lg k) (by omega)
    have l2 : (sfX lg k).length ≤ 2 := by unfold sfX; split <;> decide
    have a2 := add_str (s := stem ++ nmX f st lg k) (t := sfX lg k) (by rw [len_app]; omega)
    have m2 := mod_int (i := (k : Int)) (j := 2) (by omega)
    have nos := noOwns_strs acc
    by_cases hl : lg = 1
    · have e1 := fdiv_int (i := (k : Int)) (j := 2) (by omega)
      have e2 := mul_int (i := (st : Int)) (j := (k : Int) / 2) (.inl (by omega))
      have e3 := mod_int (i := (f : Int) + (st : Int) * ((k : Int) / 2)) (j := 26) (by omega)
      have c3 : ((f : Int) + (st : Int) * ((k : Int) / 2)) % 26 = (((f + st * (k / 2)) % 26 : Nat) : Int) := by push_cast; rfl
      rw [c3] at e3
      have e4 := az_get (i := (f + st * (k / 2)) % 26) (Nat.mod_lt _ (by decide))
      have x1 : le ((f + st * (k / 2)) % 26) = nmX f st lg k := by simp [nmX, hl]
      rw [x1] at e4
      generalize (f + st * (k / 2)) % 26 = j at e3 e4
      have ab := mul_ab (decide (k % 2 = 1))
      have x2 : (if decide (k % 2 = 1) then ("ab" : Str) else "") = sfX lg k := by simp [sfX, hl]
      rw [x2] at ab
      have c5 : ((k : Int) % 2 == 1) = decide (k % 2 = 1) := by
        rw [Bool.eq_iff_iff, beq_iff_eq, decide_eq_true_eq]; omega
      subst hl
      simp at ab
      simp [forL, e1, e2, e3, e4, a1, a2, m2, c5, ab, z, nos, naX]
    · have e2 := mul_int (i := (st : Int)) (j := (k : Int)) (.inl (by omega))
      have e3 := mod_int (i := (f : Int) + (st : Int) * (k : Int)) (j := 26) (by omega)
      have c3 : ((f : Int) + (st : Int) * (k : Int)) % 26 = (((f + st * k) % 26 : Nat) : Int) := by push_cast; rfl
      rw [c3] at e3
      have e4 := az_get (i := (f + st * k) % 26) (Nat.mod_lt _ (by decide))
      have x1 : le ((f + st * k) % 26) = nmX f st lg k := by simp [nmX, hl]
      rw [x1] at e4
      generalize (f + st * k) % 26 = j at e3 e4
      have ab := mul_ab false
      have x2 : (if false then ("ab" : Str) else "") = sfX lg k := by simp [sfX, hl]
      rw [x2] at ab
      have c5 : ((lg : Int) == 1) = false := by
        rw [Bool.eq_false_iff]; intro h; rw [beq_iff_eq] at h; omega
      simp at ab
      simp [forL, e2, e3, e4, a1, a2, c5, ab, z, nos, naX]
end Z

set_option Elab.async false
set_option linter.all false
set_option maxRecDepth 100000
set_option maxHeartbeats 400000
/-! P9: names, unlike; sorted. -/
namespace Z
open PySem
theorem le_app_inj {i j : Nat} {x y : Str} (h : le i ++ x = le j ++ y) : i = j ∧ x = y := by
  have h1 : (le i ++ x).cps = (le j ++ y).cps := by rw [h]
  have h2 : (#[97 + i] ++ x.cps).toList = (#[97 + j] ++ y.cps).toList := congrArg Array.toList h1
  simp at h2
  refine ⟨by omega, ?_⟩
  have h3 := h2.2
  cases x with
  | mk a =>
    cases y with
    | mk b =>
      have : a.toList = b.toList := by simpa using h3
      exact congrArg Str.mk (Array.ext' this)
theorem naX_inj {stem : Str} {f st lg k k' : Nat} (hst : st = 1 ∨ st = 3 ∨ st = 25) (hk : k < 26) (hk' : k' < 26) (h : naX stem f st lg k = naX stem f st lg k') : k = k' := by
  unfold naX at h
  rw [app_assoc, app_assoc] at h
  have h1 := str_inj h
  unfold nmX at h1
  obtain ⟨h2, h3⟩ := le_app_inj h1
  by_cases hl : lg = 1
  · simp only [hl, if_true] at h2
    have e : k / 2 = k' / 2 := by
      rcases hst with rfl | rfl | rfl <;> omega
    have p : k % 2 = k' % 2 := by
      unfold sfX at h3
      have ne : ("ab" : Str) ≠ "" := by decide
      by_cases p1 : k % 2 = 1 <;> by_cases p2 : k' % 2 = 1
      · omega
      · rw [if_pos ⟨hl, p1⟩, if_neg (fun z => p2 z.2)] at h3; exact absurd h3 ne
      · rw [if_neg (fun z => p1 z.2), if_pos ⟨hl, p2⟩] at h3; exact absurd h3.symm ne
      · omega
    omega
  · simp only [hl, if_false] at h2
    rcases hst with rfl | rfl | rfl <;> omega
theorem nodup_map_range {m : Nat} {g : Nat → Str} (h : ∀ k k', k < m → k' < m → g k = g k' → k = k') : ((List.range m).map g).Nodup := by
  rw [List.nodup_iff_pairwise_ne, List.pairwise_map]
  exact (List.nodup_range (n := m)).imp_of_mem fun {a b} ha hb hab e => hab (h a b (List.mem_range.mp ha) (List.mem_range.mp hb) e)
theorem seq_step {a b : MS} {r r1 : Rho} (h : a r = some (.nx r1)) : seqS a b r = b r1 := by
  simp only [e_seqS, h]
theorem forS_step {src : M Src} {g : MT} {b : MS} {r r1 : Rho} {l : Src} {out : Option Out} (h : src r = some (.ok l r1)) (h2 : forL g b l.2 r1 = out) : forS src g b r = out := by
  rw [e_forS, e_bndS, h]
  exact h2
theorem srcR1_of {ms : M (List Opd)} {os : List Opd} {k : Int} {r r1 : Rho} (h : ms r = some (.ok os r1)) (hd : opdDs r1 os = some [.int k]) (hj : -(2 ^ 62) ≤ k ∧ k < 2 ^ 62) : srcR1 ms r = some (.ok ([], (List.range k.toNat).map fun i : Nat => D.int (0 + (i : Int))) r1) := by
  unfold srcR1 bnd
  rw [h]
  dsimp only
  rw [hd]
  dsimp only
  rw [if_pos hj]
theorem src_m {a c d e f g h i j k : Option D} {m : Nat} (es : (fun i : Nat => D.int (0 + (i : Int))) = fun i : Nat => D.int (i : Int)) (r2 : (m : Int) < 4611686018427387904) (r2' : -4611686018427387904 ≤ (m : Int)) :
    srcR1 (consM (slotO false 1) (ret [])) [a, some (.int (m : Int)), c, d, e, f, g, h, i, j, k] = some (.ok (([], (List.range m).map fun i : Nat => D.int (i : Int)) : Src) [a, some (.int (m : Int)), c, d, e, f, g, h, i, j, k]) := by
  have cc : -(2 ^ 62) ≤ (m : Int) ∧ (m : Int) < 2 ^ 62 := ⟨by omega, by omega⟩
  have := srcR1_of (ms := consM (slotO false 1) (ret [])) (os := [.v 1]) (k := (m : Int)) (r := [a, some (.int (m : Int)), c, d, e, f, g, h, i, j, k]) (r1 := [a, some (.int (m : Int)), c, d, e, f, g, h, i, j, k]) rfl rfl cc
  rw [es, Int.toNat_natCast] at this
  exact this
theorem run_rt {N np nio : Nat} {m : MS} {ds io : List D} {d : D} {r : Rho} (h : m (ds.map some ++ List.replicate (N - np) none) = some (.rt d r)) (hl : ds.length = np) (ho : opts (r.take nio) = some io) : run N np nio m ds = some (.ok d io) := by
  unfold run
  rw [if_pos hl, h]
  simp only [ho, Option.map_some]
/-- a name's shape -/
def isNm (s : Str) : Prop := 1 ≤ s.length ∧ s.length ≤ 6 ∧ ∀ c ∈ s.cps.toList, 97 ≤ c ∧ c ≤ 122 ∧ s ≠ "zzzzzz"
theorem ones_of : ∀ {ss : List Str}, (∀ s ∈ ss, ∃ c : Nat, (97 ≤ c ∧ c ≤ 122) ∧ s = ⟨#[c]⟩) → ∃ cs : List Nat, ss = cs.map (fun k => (⟨#[k]⟩ : Str)) ∧ ∀ c ∈ cs, 97 ≤ c ∧ c ≤ 122
  | [], _ => ⟨[], rfl, by simp⟩
  | s :: ss, h => by
    obtain ⟨c, hc, rfl⟩ := h s List.mem_cons_self
    obtain ⟨cs, rfl, k⟩ := ones_of (ss := ss) fun x hx => h x (List.mem_cons_of_mem _ hx)
    exact ⟨c :: cs, rfl, fun x hx => (List.mem_cons.mp hx).elim (fun e => e ▸ hc) (k x)⟩
theorem join_codes (cs : List Nat) : Txt.join "" (cs.map fun k => (⟨#[k]⟩ : Str)) = ⟨cs.toArray⟩ := by
  show Builtin.Str.glued (PySem.Str.ofString "") _ = _
  rw [StrLaws.glued_eq_join]
  exact PyProof.Rows.join_ones cs
theorem isNm_na {cs : List Nat} (h : cs.length ≤ 3) (k : ∀ c ∈ cs, 97 ≤ c ∧ c ≤ 122) (f st lg i : Nat) : isNm (naX ⟨cs.toArray⟩ f st lg i) := by
  have e : (naX ⟨cs.toArray⟩ f st lg i).cps.toList = cs ++ [97 + (f + st * (if lg = 1 then i / 2 else i)) % 26] ++ (sfX lg i).cps.toList := by
    show (cs.toArray ++ #[97 + (f + st * (if lg = 1 then i / 2 else i)) % 26] ++ (sfX lg i).cps).toList = _
    simp
  have e2 : (sfX lg i).cps.toList = [97, 98] ∨ (sfX lg i).cps.toList = [] := by
    unfold sfX; split
    · exact .inl rfl
    · exact .inr rfl
  have el : (naX ⟨cs.toArray⟩ f st lg i).length = (naX ⟨cs.toArray⟩ f st lg i).cps.toList.length := by
    show (naX ⟨cs.toArray⟩ f st lg i).cps.size = _
    simp
  have lt := Nat.mod_lt (f + st * (if lg = 1 then i / 2 else i)) (show 0 < 26 by decide)
  generalize (f + st * (if lg = 1 then i / 2 else i)) % 26 = j at e lt
  have hz : naX ⟨cs.toArray⟩ f st lg i ≠ "zzzzzz" := fun q => by
    rw [q] at e
    have ez : ("zzzzzz" : Str).cps.toList = [122, 122, 122, 122, 122, 122] := by decide +kernel
    rw [ez] at e
    rcases e2 with e2 | e2 <;> rw [e2] at e
    · have := congrArg List.getLast? e
      simp at this
    · have := congrArg List.length e
      simp at this
      omega
  have goal : ∀ c ∈ (naX ⟨cs.toArray⟩ f st lg i).cps.toList, 97 ≤ c ∧ c ≤ 122 := by
    rw [e]
    rcases e2 with e2 | e2 <;> rw [e2] <;> intro c hc <;> simp at hc
    · rcases hc with hc | rfl | rfl | rfl
      · exact k c hc
      · omega
      · omega
      · omega
    · rcases hc with hc | rfl
      · exact k c hc
      · omega
  refine ⟨?_, ?_, fun c hc => ⟨(goal c hc).1, (goal c hc).2, hz⟩⟩
  · rw [el, e]
    rcases e2 with e2 | e2 <;> rw [e2] <;> simp
  · rw [el, e]
    rcases e2 with e2 | e2 <;> rw [e2] <;> simp <;> omega
theorem p_names {n : Int} {box : D} {m : Nat} (h : BoxOk n box) (hn : n ≤ 100000000) (hm : m ≤ 26) : ∃ (ns : List Str) (box' : D), f_law_names [box, .int (m : Int)] = some (.ok (.lst true (ns.map .str)) [box']) ∧ ns.length = m ∧ ns.Nodup ∧ (∀ s ∈ ns, isNm s) ∧ BoxOk (n + 8) box' := by
  have ao := h.own
  obtain ⟨v1, b1, e1, p1, q1, h1⟩ := p_take (size := 26) 11 h (by omega) (by omega) (by omega)
  obtain ⟨f, rfl⟩ : ∃ i : Nat, v1 = (i : Int) := ⟨v1.toNat, by omega⟩
  obtain ⟨v2, b2, e2, p2, q2, h2⟩ := p_take (size := 4) 11 h1 (by omega) (by omega) (by omega)
  obtain ⟨sl, rfl⟩ : ∃ i : Nat, v2 = (i : Int) := ⟨v2.toNat, by omega⟩
  obtain ⟨ss, b3, l1, l2, h3, ec⟩ := stem_loop (A := some (.int (m : Int))) (B := some (.int (f : Int))) (C := some (.lst true [])) (M := none) (E1 := none) (E2 := none) (E3 := none) (E4 := none) ((List.range sl).map fun i : Nat => D.int (0 + (i : Int))) (n + 1 + 1) b2 none h2 (by simp; omega)
  obtain ⟨v4, b4, e4, p4, q4, h4⟩ := p_take (size := 3) 11 h3 (by simp; omega) (by omega) (by omega)
  obtain ⟨si, rfl⟩ : ∃ i : Nat, v4 = (i : Int) := ⟨v4.toNat, by omega⟩
  obtain ⟨v5, b5, e5, p5, q5, h5⟩ := p_take (size := 2) 11 h4 (by simp; omega) (by omega) (by omega)
  obtain ⟨lg, rfl⟩ : ∃ i : Nat, v5 = (i : Int) := ⟨v5.toNat, by omega⟩
  have l2' : ∀ s ∈ ss, s.length = 1 := fun s hs => by
    obtain ⟨c, _, rfl⟩ := l2 s hs
    rfl
  obtain ⟨cs, hcs, hc2⟩ := ones_of l2
  have hsum : (ss.map (·.length)).sum = ss.length := by
    clear ec l1 l2 hcs
    induction ss with
    | nil => rfl
    | cons s ss ih => simp [l2' s List.mem_cons_self, ih fun x hx => l2' x (List.mem_cons_of_mem _ hx)]; omega
  have l1' : ss.length = sl := by simpa using l1
  have z0 : ("" : Str).length = 0 := by decide
  obtain ⟨stem, hstem⟩ : ∃ s, Txt.join "" ss = s := ⟨_, rfl⟩
  have ej : joinS [.str "", .lst true (ss.map .str)] = some (.str stem) := by
    have : (ss.map (·.length)).sum + ss.length * ("" : Str).length ≤ 10000000 := by rw [hsum, z0]; omega
    simp only [joinS, strsD_str, Option.bind_some, if_pos this, hstem]
  have hsl : stem.length ≤ 1000 := by
    rw [← hstem, PySem.W.KT.join_ones ss l2']
    omega
  obtain ⟨st, hst, est⟩ : ∃ st : Nat, (st = 1 ∨ st = 3 ∨ st = 25) ∧ idxS [.lst true [.int 1, .int 3, .int 25], .int (si : Int)] = some (.int (st : Int)) := by
    have : si = 0 ∨ si = 1 ∨ si = 2 := by omega
    rcases this with rfl | rfl | rfl
    · exact ⟨1, .inl rfl, rfl⟩
    · exact ⟨3, .inr (.inl rfl), rfl⟩
    · exact ⟨25, .inr (.inr rfl), rfl⟩
  obtain ⟨p', q', eL⟩ := na_loop (A := some b5) (M := some (.int (m : Int))) (T := none) (stem := stem) (f := f) (st := st) (lg := lg) hsl (by omega) (by omega) (List.range m) [] none none (by simp; omega)
  rw [List.map_nil, List.nil_append] at eL
  refine ⟨(List.range m).map (naX stem f st lg), b5, ?_, by simp, nodup_map_range fun k k' a b e => naX_inj hst (by omega) (by omega) e, fun s hs => ?_, h5.mono (by simp; omega)⟩
  case refine_2 =>
    obtain ⟨i, _, rfl⟩ := List.mem_map.mp hs
    have lc : cs.length ≤ 3 := by have := congrArg List.length hcs; simp at this; omega
    have es : stem = ⟨cs.toArray⟩ := by rw [← hstem, hcs]; exact join_codes cs
    rw [es]
    exact isNm_na lc hc2 f st lg i
  have o1 := h1.own
  have o2 := h2.own
  have o3 := h3.own
  have o4 := h4.own
  have o5 := h5.own
  have es : (fun i : Nat => D.int (0 + (i : Int))) = fun i : Nat => D.int (i : Int) := by funext i; rw [Int.zero_add]
  rw [es] at ec eL
  have r1 : (sl : Int) < 4611686018427387904 := by omega
  have r2 : (m : Int) < 4611686018427387904 := by omega
  have r1' : -4611686018427387904 ≤ (sl : Int) := by omega
  have r2' : -4611686018427387904 ≤ (m : Int) := by omega
  have r3 : sl ≤ 10000000 := by omega
  have haz : ("abcdefghijklmnopqrstuvwxyz" : Str) = az := rfl
  have key : m_law_names [some box, some (.int (m : Int)), none, none, none, none, none, none, none, none, none] = some (.rt (.lst true (((List.range m).map (naX stem f st lg)).map .str)) [some b5, some (.int (m : Int)), some (.str az), some (.int (f : Int)), none, some (.str stem), none, some (.int (st : Int)), some (.int (lg : Int)), p', q']) := by
    unfold m_law_names
    refine (seq_step (r1 := [some b1, some (.int (m : Int)), some (.str az), some (.int (f : Int)), some (.lst true []), none, none, none, none, none, none]) ?_).trans ?_
    · simp [haz, e1, o1]
    refine (seq_step (r1 := [some b3, some (.int (m : Int)), some (.str az), some (.int (f : Int)), some (.lst true []), some (.str stem), none, none, none, none, none]) ?_).trans ?_
    · simp [e2, o2, ec, ej, r1, r1', r3]
    refine (seq_step (r1 := [some b5, some (.int (m : Int)), some (.str az), some (.int (f : Int)), some (.lst true []), some (.str stem), none, some (.int (st : Int)), some (.int (lg : Int)), none, none]) ?_).trans ?_
    · simp [e4, e5, o4, o5, est]
    refine (seq_step (r1 := [some b5, some (.int (m : Int)), some (.str az), some (.int (f : Int)), some (.lst true (((List.range m).map (naX stem f st lg)).map .str)), some (.str stem), none, some (.int (st : Int)), some (.int (lg : Int)), p', q']) ?_).trans ?_
    · exact forS_step (l := ([], (List.range m).map fun i : Nat => D.int (i : Int))) (src_m es r2 r2') eL
    · simp
  exact run_rt (N := 11) (np := 2) (nio := 1) (m := m_law_names) key rfl rfl
end Z

set_option Elab.async false
set_option linter.all false
set_option maxRecDepth 100000
set_option maxHeartbeats 400000
/-! P10: sorted names; three folk. -/
namespace Z
open PySem
def slt (a b : Str) : Prop := a.cps.toList < b.cps.toList
instance (a b : Str) : Decidable (slt a b) := inferInstanceAs (Decidable (a.cps.toList < b.cps.toList))
theorem slt_irrefl (a : Str) : ¬ slt a a := List.lt_irrefl _
theorem slt_asymm {a b : Str} (h : slt a b) : ¬ slt b a := List.lt_asymm h
theorem slt_trans {a b c : Str} (h : slt a b) (k : slt b c) : slt a c := List.lt_trans h k
theorem slt_ne {a b : Str} (h : slt a b) : a ≠ b := fun e => by subst e; exact slt_irrefl a h
theorem slt_tri {a b : Str} (h : ¬ slt a b) (k : ¬ slt b a) : a = b := by
  have : a.cps.toList = b.cps.toList := List.le_antisymm (List.not_lt.mp k) (List.not_lt.mp h)
  cases a; cases b
  exact congrArg Str.mk (Array.ext' this)
theorem dataLe_str (a b : Str) : PySem.W.dataLe false py (.str a) (.str b) = !decide (slt b a) := by
  have := PySem.W.dataLt_str b a
  show (!PySem.W.dataLt (.str b) (.str a)) = _
  rw [this]
  rfl
theorem sort_strs (l : List Str) (h : l.length ≤ 1000) (hd : l.Nodup) : ∃ l' : List Str, sortedS [.lst true (l.map .str)] = some (.lst true (l'.map .str)) ∧ l'.Perm l ∧ l'.Pairwise slt := by
  refine ⟨l.mergeSort (fun a b => !decide (slt b a)), ?_, List.mergeSort_perm _ _, ?_⟩
  · have e : sortD (l.map .str) = (l.mergeSort (fun a b => !decide (slt b a))).map .str := by
      unfold sortD
      exact (List.map_mergeSort (f := D.str) (r := fun a b => !decide (slt b a)) (s := PySem.W.dataLe false py) (l := l) (fun a _ b _ => (dataLe_str a b).symm)).symm
    have a1 : pls 50 (l.map .str) = true := pls_strs 50 l
    have a2 : alk (l.map .str) = true := by
      unfold alk
      rw [List.all_eq_true]
      intro x hx
      rw [List.all_eq_true]
      intro y hy
      obtain ⟨a, _, rfl⟩ := List.mem_map.mp hx
      obtain ⟨b, _, rfl⟩ := List.mem_map.mp hy
      rfl
    have a3 : kinS (l.map .str) = true := by
      unfold kinS
      rw [Bool.or_eq_true]
      right
      simp
    simp only [sortedS, a1, a2, a3, Bool.and_self, List.length_map]
    rw [if_pos ⟨trivial, by omega⟩, e]
  · have p := List.pairwise_mergeSort (le := fun a b : Str => !decide (slt b a)) (fun a b c h1 h2 => by
      simp at h1 h2 ⊢
      intro h3
      by_cases q : slt b a
      · exact h1 q
      · by_cases q2 : a = b
        · subst q2; exact h2 h3
        · have : slt a b := by
            by_cases z : slt a b
            · exact z
            · exact absurd (slt_tri z q) q2
          exact h2 (slt_trans h3 this)) (fun a b => by
      simp
      by_cases q : slt b a
      · exact .inr (slt_asymm q)
      · exact .inl q) l
    have nd : (l.mergeSort (fun a b => !decide (slt b a))).Nodup := (List.mergeSort_perm l _).nodup_iff.mpr hd
    rw [List.nodup_iff_pairwise_ne] at nd
    refine (p.and nd).imp fun {a b} q => ?_
    obtain ⟨q1, q2⟩ := q
    simp at q1
    by_cases z : slt a b
    · exact z
    · exact absurd (slt_tri z q1) q2
end Z

set_option Elab.async false
set_option linter.all false
set_option maxRecDepth 100000
set_option maxHeartbeats 400000
/-! P15: loops by an invariant; one of some; strewn. -/
namespace Z
open PySem
/-- a loop that goes on to its end, by what holds ahead of each turn -/
theorem forL_ix {g : MT} {b : MS} (I : Nat → Rho → Prop) : ∀ {ds : List D} {i : Nat} {r : Rho}, I i r → (∀ j d r, ds[j]? = some d → I (i + j) r → ∃ r1 r2, g d r = some r1 ∧ b r1 = some (.nx r2) ∧ I (i + j + 1) r2) → ∃ r', forL g b ds r = some (.nx r') ∧ I (i + ds.length) r'
  | [], i, r, h, _ => ⟨r, rfl, h⟩
  | d :: ds, i, r, h, k => by
    obtain ⟨r1, r2, h1, h2, h3⟩ := k 0 d r rfl h
    obtain ⟨r', h4, h5⟩ := forL_ix I (ds := ds) (i := i + 1) h3 fun j x r hj hI => by
      have := k (j + 1) x r (by simpa using hj) (by rw [show i + (j + 1) = i + 1 + j by omega]; exact hI)
      rw [show i + (j + 1) + 1 = i + 1 + j + 1 by omega] at this
      exact this
    refine ⟨r', ?_, by rw [show i + (d :: ds).length = i + 1 + ds.length by simp; omega]; exact h5⟩
    simp only [forL, h1, h2, h4]
/-- a comprehension whose turns may change what stands; what is made so far told, too -/
theorem lcL_ix {vs : List Nat} {g : MT} {m : M D} (I : Nat → Rho → List D → Prop) : ∀ {ds : List D} {i : Nat} {r : Rho} {acc : List D}, I i r acc → (∀ j d r acc, ds[j]? = some d → I (i + j) r acc → ∃ r1 x r2, g d r = some r1 ∧ m r1 = some (.ok x r2) ∧ I (i + j + 1) (wipeR r2 vs) (acc ++ [x])) →
    ∃ xs r', lcL vs g yesM m ds r = some (xs, r') ∧ I (i + ds.length) r' (acc ++ xs)
  | [], i, r, acc, h, _ => ⟨[], r, rfl, by rw [List.append_nil]; exact h⟩
  | d :: ds, i, r, acc, h, k => by
    obtain ⟨r1, x, r2, h1, h2, h3⟩ := k 0 d r acc rfl h
    obtain ⟨xs, r', h4, h5⟩ := lcL_ix I (ds := ds) (i := i + 1) h3 fun j y r acc hj hI => by
      have := k (j + 1) y r acc (by simpa using hj) (by rw [show i + (j + 1) = i + 1 + j by omega]; exact hI)
      rw [show i + (j + 1) + 1 = i + 1 + j + 1 by omega] at this
      exact this
    refine ⟨x :: xs, r', ?_, ?_⟩
    · simp only [lcL, h1, e_yesM, h2, h4]
    · rw [show i + (d :: ds).length = i + 1 + ds.length by simp; omega, show acc ++ x :: xs = acc ++ [x] ++ xs by simp]
      exact h5
@[simp] theorem e_whileS (t b n) (r : Rho) : whileS t b (n + 1) r = bndS t (fun d r1 => match d with
    | .bl true => (match b r1 with
      | some (.nx r2) => whileS t b n r2
      | some (.ct r2) => whileS t b n r2
      | some (.bk r2) => some (.nx r2)
      | x => x)
    | .bl false => some (.nx r1)
    | _ => none) r := rfl
@[simp] theorem e_popAtM (i ms) (r : Rho) : popAtM i ms r = (match r[i]? with
  | some (some d0) => if isLst d0 = true then bnd ms (fun os r => match tds os, r[i]? with
    | some [.int k], some (some (.lst true l)) => if -(2 ^ 63) ≤ k ∧ k < 2 ^ 63 then (match seqIndex? k l.length with
      | some j => (match l[j]? with
        | some d => some (.ok d (r.set i (some (.lst true (l.eraseIdx j)))))
        | none => none)
      | none => none) else none
    | _, _ => none) r else none
  | _ => none) := rfl
@[simp] theorem e_popM (i) (r : Rho) : popM i r = (match r[i]? with
  | some (some (.lst true l)) => (match l[l.length - 1]? with
    | some d => some (.ok d (r.set i (some (.lst true l.dropLast))))
    | none => none)
  | _ => none) := rfl
theorem lenS_l (o : Bool) (l : List D) : lenS [.lst o l] = some (.int (l.length : Nat)) := rfl
theorem lenS_t (l : List D) : lenS [.tup l] = some (.int (l.length : Nat)) := rfl
theorem p_of_t {n : Int} {box : D} {l : List D} (h : BoxOk n box) (hn : n ≤ 100000000) (l0 : l ≠ []) (l1 : l.length ≤ 10000000) (no : noOwns l = true) (ao : allOwns l = true) :
    ∃ (d : D) (box' : D), f_law_of [box, .tup l] = some (.ok d [box']) ∧ d ∈ l ∧ BoxOk (n + 1) box' := by
  have lp : 0 < l.length := List.length_pos_iff.mpr l0
  obtain ⟨v, b1, e1, p1, q1, h1⟩ := p_take (size := (l.length : Int)) 11 h (by omega) (by omega) (by omega)
  obtain ⟨i, rfl⟩ : ∃ i : Nat, v = (i : Int) := ⟨v.toNat, by omega⟩
  have hi : i < l.length := by omega
  refine ⟨l[i], b1, ?_, List.getElem_mem hi, h1⟩
  have o1 := h1.own
  simp [f_law_of, run, m_law_of, no, lenS_t, e1, o1, hi]
theorem p_of_l {n : Int} {box : D} {l : List D} {o : Bool} (h : BoxOk n box) (hn : n ≤ 100000000) (l0 : l ≠ []) (l1 : l.length ≤ 10000000) (no : noOwns l = true) (ao : allOwns l = true) :
    ∃ (d : D) (box' : D), f_law_of [box, .lst o l] = some (.ok d [box']) ∧ d ∈ l ∧ BoxOk (n + 1) box' := by
  have lp : 0 < l.length := List.length_pos_iff.mpr l0
  obtain ⟨v, b1, e1, p1, q1, h1⟩ := p_take (size := (l.length : Int)) 11 h (by omega) (by omega) (by omega)
  obtain ⟨i, rfl⟩ : ∃ i : Nat, v = (i : Int) := ⟨v.toNat, by omega⟩
  have hi : i < l.length := by omega
  refine ⟨l[i], b1, ?_, List.getElem_mem hi, h1⟩
  have o1 := h1.own
  simp [f_law_of, run, m_law_of, no, lenS_l, e1, o1, hi]
theorem ne_nil {l : List D} {o o' : Bool} (h : pls 49 l = true) : neS [.lst o l, .lst o' []] = some (.bl (decide (l ≠ []))) := by
  have e : PyData.eqv (py (.lst o l)) (py (.lst o' [])) = decide (l = []) := by
    cases l with
    | nil => rfl
    | cons a l => rfl
  simp only [neS, e, show pl 50 (.lst o l) = true from h, show pl 50 (.lst o' []) = true from rfl, Bool.and_self, if_true]
  cases l <;> rfl
theorem seqIx {k n : Nat} (h : k < n) : seqIndex? (k : Int) n = some k := by
  unfold seqIndex?
  have h1 : ¬ ((k : Int) < 0) := by omega
  have h2 : (k : Int) < (n : Int) := by omega
  simp [h1, h2]
def strC : M D := op2 false neS (slotO false 2) (mT (lstM (ret [])))
def strB : MS := exS (appM 3 (consM (mT (popAtM 2 (consM (mT (call1 (f_law_take 12) (consM (slotO false 0) (consM (mT (opN false lenS (consM (slotO false 2) (ret [])))) (ret []))))) (ret [])))) (ret [])))
theorem pls_erase {l : List D} {n i : Nat} (h : pls n l = true) : pls n (l.eraseIdx i) = true := by
  rw [pls_all, List.all_eq_true] at h ⊢
  exact fun x hx => h x ((List.eraseIdx_sublist _ _).subset hx)
theorem str_loop {A : Option D} : ∀ (fuel : Nat) (left acc : List D) (n : Int) (box : D), BoxOk n box → n + left.length ≤ 200000000 → left.length + acc.length ≤ 100000 → left.length < fuel → pls 49 left = true →
    ∃ (f : List D) (box' : D), f.Perm left ∧ BoxOk (n + left.length) box' ∧ whileS strC strB fuel [some box, A, some (.lst true left), some (.lst true acc)] = some (.nx [some box', A, some (.lst true []), some (.lst true (acc ++ f))])
  | 0, _, _, _, _, _, _, _, h, _ => absurd h (Nat.not_lt_zero _)
  | fuel + 1, [], acc, n, box, h, hn, hz, hf, hp => ⟨[], box, .refl _, by simpa using h, by
      have := ne_nil (l := []) (o := true) (o' := true) rfl
      simp [strC, this]⟩
  | fuel + 1, x :: left, acc, n, box, h, hn, hz, hf, hp => by
    obtain ⟨v, b1, e1, p1, q1, h1⟩ := p_take (size := (((x :: left).length : Nat) : Int)) 11 h (by omega) (by simp) (by simp at hz ⊢; omega)
    obtain ⟨i, rfl⟩ : ∃ i : Nat, v = (i : Int) := ⟨v.toNat, by omega⟩
    generalize hl : x :: left = l at *
    have hi : i < l.length := by omega
    have l1 : (l.eraseIdx i).length = l.length - 1 := List.length_eraseIdx_of_lt hi
    have lp : 0 < l.length := by omega
    obtain ⟨f, b2, pf, h2, ih⟩ := str_loop (A := A) fuel (l.eraseIdx i) (acc ++ [l[i]]) (n + 1) b1 h1 (by rw [l1]; omega) (by rw [l1]; simp; omega) (by rw [l1]; omega) (pls_erase hp)
    refine ⟨l[i] :: f, b2, ((pf.cons _).trans (perm_erase (List.getElem?_eq_getElem hi)).symm), ?_, ?_⟩
    · rw [l1] at h2
      have : n + 1 + ((l.length - 1 : Nat) : Int) = n + (l.length : Int) := by omega
      rwa [this] at h2
    · have e2 := ne_nil (o := true) (o' := true) hp
      have nl : l ≠ [] := by rw [← hl]; simp
      have o1 := h1.own
      have s1 := seqIx hi
      have z1 : acc.length < 10000000 := by omega
      have z2 : (i : Int) < 9223372036854775808 := by omega
      have z3 : -9223372036854775808 ≤ (i : Int) := by omega
      have ih' : whileS strC strB fuel [some b1, A, some (.lst true (l.eraseIdx i)), some (.lst true (acc ++ [l[i]]))] = some (.nx [some b2, A, some (.lst true []), some (.lst true (acc ++ l[i] :: f))]) := by
        rw [ih]; simp
      rw [← ih']
      have ec : strC [some box, A, some (.lst true l), some (.lst true acc)] = some (.ok (.bl true) [some box, A, some (.lst true l), some (.lst true acc)]) := by
        simp [strC, e2, nl]
      have eb : strB [some box, A, some (.lst true l), some (.lst true acc)] = some (.nx [some b1, A, some (.lst true (l.eraseIdx i)), some (.lst true (acc ++ [l[i]]))]) := by
        simp [strB, lenS_l, e1, o1, s1, z1, z2, z3, hi]
      rw [e_whileS, e_bndS, ec]
      simp only [eb]
theorem p_strewn {n : Int} {box X : D} {l : List D} (h : BoxOk n box) (hn : n ≤ 100000000) (hX : listS [X] = some (.lst true l)) (kX : kn X = true) (hz : l.length ≤ 10000) (hp : pls 49 l = true) :
    ∃ (f : List D) (box' : D), f_law_strewn [box, X] = some (.ok (.lst true f) [box']) ∧ f.Perm l ∧ BoxOk (n + l.length) box' := by
  obtain ⟨f, b1, pf, h1, key⟩ := str_loop (A := some X) 100000 l [] n box h (by omega) (by simp; omega) (by omega) hp
  refine ⟨f, b1, ?_, pf, h1⟩
  have k : m_law_strewn [some box, some X, none, none] = some (.rt (.lst true f) [some b1, some X, some (.lst true []), none]) := by
    unfold m_law_strewn
    refine (seq_step (r1 := [some box, some X, some (.lst true l), some (.lst true [])]) ?_).trans ?_
    · simp [kX, hX]
    refine (seq_step key).trans ?_
    simp
  exact run_rt (N := 4) (np := 2) (nio := 1) (m := m_law_strewn) k rfl rfl
end Z

set_option Elab.async false
set_option linter.all false
set_option maxRecDepth 100000
set_option maxHeartbeats 400000
/-! P16: sorted, by an order; trees drawn. -/
namespace Z
open PySem
theorem sort_by {α : Type} (f : α → D) (lt : α → α → Prop) [DecidableRel lt] (hf : ∀ a b, PySem.W.dataLe false py (f a) (f b) = !decide (lt b a)) (irr : ∀ a, ¬ lt a a) (tr : ∀ a b c, lt a b → lt b c → lt a c) (tri : ∀ a b, ¬ lt a b → ¬ lt b a → a = b)
    (l : List α) (h : l.length ≤ 1000000) (hd : l.Nodup) (o : Bool) (a1 : pls 50 (l.map f) = true) (a2 : ∀ a b, PySem.W.alike (py (f a)) (py (f b)) = true) (a3 : kinS (l.map f) = true) : ∃ l' : List α, sortedS [.lst o (l.map f)] = some (.lst true (l'.map f)) ∧ l'.Perm l ∧ l'.Pairwise lt := by
  refine ⟨l.mergeSort (fun a b => !decide (lt b a)), ?_, List.mergeSort_perm _ _, ?_⟩
  · have e : sortD (l.map f) = (l.mergeSort (fun a b => !decide (lt b a))).map f := by
      unfold sortD
      exact (List.map_mergeSort (f := f) (r := fun a b => !decide (lt b a)) (s := PySem.W.dataLe false py) (l := l) (fun a _ b _ => (hf a b).symm)).symm
    have a2' : alk (l.map f) = true := by
      unfold alk
      rw [List.all_eq_true]
      intro x hx
      rw [List.all_eq_true]
      intro y hy
      obtain ⟨a, _, rfl⟩ := List.mem_map.mp hx
      obtain ⟨b, _, rfl⟩ := List.mem_map.mp hy
      exact a2 a b
    simp only [sortedS, a1, a2', a3, Bool.and_self, List.length_map]
    rw [if_pos ⟨trivial, h⟩, e]
  · have asy : ∀ a b, lt a b → ¬ lt b a := fun a b h k => irr a (tr a b a h k)
    have p := List.pairwise_mergeSort (le := fun a b : α => !decide (lt b a)) (fun a b c h1 h2 => by
      simp at h1 h2 ⊢
      intro h3
      by_cases q : lt b a
      · exact h1 q
      · by_cases z : lt a b
        · exact h2 (tr _ _ _ h3 z)
        · have := tri a b z q
          subst this; exact h2 h3) (fun a b => by
      simp
      by_cases q : lt b a
      · exact .inr (asy _ _ q)
      · exact .inl q) l
    have nd : (l.mergeSort (fun a b => !decide (lt b a))).Nodup := (List.mergeSort_perm l _).nodup_iff.mpr hd
    rw [List.nodup_iff_pairwise_ne] at nd
    refine (p.and nd).imp fun {a b} q => ?_
    obtain ⟨q1, q2⟩ := q
    simp at q1
    by_cases z : lt a b
    · exact z
    · exact absurd (tri _ _ z q1) q2
/-- pairs rise -/
def plt (p q : Str × Str) : Prop := slt p.1 q.1 ∨ (p.1 = q.1 ∧ slt p.2 q.2)
instance (p q : Str × Str) : Decidable (plt p q) := inferInstanceAs (Decidable (_ ∨ _))
theorem plt_irrefl (p : Str × Str) : ¬ plt p p := fun h => h.elim (slt_irrefl _) fun h => slt_irrefl _ h.2
theorem plt_trans (p q r : Str × Str) (h : plt p q) (k : plt q r) : plt p r := by
  rcases h with h | ⟨h1, h2⟩ <;> rcases k with k | ⟨k1, k2⟩
  · exact .inl (slt_trans h k)
  · exact .inl (k1 ▸ h)
  · exact .inl (h1 ▸ k)
  · exact .inr ⟨h1.trans k1, slt_trans h2 k2⟩
theorem plt_tri (p q : Str × Str) (h : ¬ plt p q) (k : ¬ plt q p) : p = q := by
  unfold plt at h k
  have e1 : p.1 = q.1 := slt_tri (fun z => h (.inl z)) (fun z => k (.inl z))
  have e2 : p.2 = q.2 := slt_tri (fun z => h (.inr ⟨e1, z⟩)) (fun z => k (.inr ⟨e1.symm, z⟩))
  exact Prod.ext e1 e2
theorem dataLe_sa (p q : Str × Str) : PySem.W.dataLe false py (saD p) (saD q) = !decide (plt q p) := by
  show (!PySem.W.dataLt (.tuple [.str q.1, .str q.2]) (.tuple [.str p.1, .str p.2])) = _
  rw [PySem.W.dataLt_pair (by simp [PySem.W.alike]) (by simp [PySem.W.alike]), PySem.W.dataLt_str, PySem.W.dataLt_str]
  simp only [PyData.eqv, beq_iff_eq]
  have i1 := fun e : q.1 = p.1 => (by rw [e]; exact slt_irrefl _ : ¬ slt q.1 p.1)
  have i2 := fun e : q.2 = p.2 => (by rw [e]; exact slt_irrefl _ : ¬ slt q.2 p.2)
  have h1 : decide (q.1.cps.toList < p.1.cps.toList) = decide (slt q.1 p.1) := rfl
  have h2 : decide (q.2.cps.toList < p.2.cps.toList) = decide (slt q.2 p.2) := rfl
  rw [h1, h2]
  congr 1
  by_cases e1 : q.1 = p.1
  · by_cases e2 : q.2 = p.2
    · rw [if_pos e1, if_pos e2]
      simp [plt, i1 e1, i2 e2]
    · rw [if_pos e1, if_neg e2]
      have i3 := slt_irrefl p.1
      simp [plt, e1, i3]
  · rw [if_neg e1]
    simp [plt, e1]
theorem sort_sas (l : List (Str × Str)) (h : l.length ≤ 1000) (hd : l.Nodup) (o : Bool) : ∃ l' : List (Str × Str), sortedS [.lst o (l.map saD)] = some (.lst true (l'.map saD)) ∧ l'.Perm l ∧ l'.Pairwise plt :=
  sort_by saD plt dataLe_sa plt_irrefl plt_trans plt_tri l (by omega) hd o (pls_sas 49 l) (fun _ _ => rfl) (by
    unfold kinS
    rw [Bool.or_eq_true]
    left
    rw [List.all_eq_true]
    intro x hx
    obtain ⟨a, _, rfl⟩ := List.mem_map.mp hx
    rfl)
/-! ### trees, leaf by leaf -/
inductive Gr : List Str → List (Str × Str) → Prop
  | one (a : Str) : Gr [a] []
  | leaf {f : List Str} {t : List (Str × Str)} {a b : Str} : Gr f t → b ∈ f → a ∉ f → Gr (f ++ [a]) (t ++ [(lo a b, hi a b)])
structure Tree (ns : List Str) (ties : List (Str × Str)) : Prop where
  gr : ∃ f t, Gr f t ∧ ns.Perm f ∧ ties.Perm t
  ns : ns.Pairwise slt
  ts : ties.Pairwise plt
theorem lohi_cases (a b : Str) : (lo a b = a ∧ hi a b = b) ∨ (lo a b = b ∧ hi a b = a) := by
  unfold lo hi
  by_cases h : b.cps.toList < a.cps.toList
  · have : ¬ a.cps.toList < b.cps.toList := List.lt_asymm h
    rw [if_pos h, if_neg this]; exact .inr ⟨rfl, rfl⟩
  · rw [if_neg h]
    by_cases k : a.cps.toList < b.cps.toList
    · rw [if_pos k]; exact .inl ⟨rfl, rfl⟩
    · rw [if_neg k]
      have : a = b := slt_tri k h
      subst this; exact .inl ⟨rfl, rfl⟩
theorem lohi_lt {a b : Str} (h : a ≠ b) : slt (lo a b) (hi a b) := by
  unfold lo hi
  by_cases h1 : b.cps.toList < a.cps.toList
  · have : ¬ a.cps.toList < b.cps.toList := List.lt_asymm h1
    rw [if_pos h1, if_neg this]; exact h1
  · rw [if_neg h1]
    by_cases k : a.cps.toList < b.cps.toList
    · rw [if_pos k]; exact k
    · exact absurd (slt_tri k h1) h
theorem Gr.nodup {f : List Str} {t : List (Str × Str)} (h : Gr f t) : f.Nodup := by
  induction h with
  | one a => simp
  | leaf _ _ hn ih => exact List.nodup_append.mpr ⟨ih, by simp, fun x hx y hy e => by simp at hy; subst e hy; exact hn hx⟩
theorem Gr.len {f : List Str} {t : List (Str × Str)} (h : Gr f t) : t.length + 1 = f.length := by
  induction h with
  | one a => rfl
  | leaf _ _ _ ih => simp; omega
theorem Gr.mem {f : List Str} {t : List (Str × Str)} (h : Gr f t) : ∀ p ∈ t, p.1 ∈ f ∧ p.2 ∈ f ∧ slt p.1 p.2 := by
  induction h with
  | one a => exact fun p hp => nomatch hp
  | @leaf f t a b _ hb ha ih =>
    intro p hp
    rcases List.mem_append.mp hp with hp | hp
    · obtain ⟨h1, h2, h3⟩ := ih p hp
      exact ⟨List.mem_append_left _ h1, List.mem_append_left _ h2, h3⟩
    · simp at hp
      subst hp
      have ne : a ≠ b := fun e => ha (e ▸ hb)
      refine ⟨?_, ?_, lohi_lt ne⟩
      · rcases lohi_cases a b with ⟨e, _⟩ | ⟨e, _⟩ <;> simp [e, hb]
      · rcases lohi_cases a b with ⟨_, e⟩ | ⟨_, e⟩ <;> simp [e, hb]
theorem Gr.nodupT {f : List Str} {t : List (Str × Str)} (h : Gr f t) : t.Nodup := by
  induction h with
  | one a => simp
  | @leaf f t a b g hb ha ih =>
    refine List.nodup_append.mpr ⟨ih, by simp, fun x hx y hy e => ?_⟩
    simp at hy
    subst e hy
    obtain ⟨h1, h2, _⟩ := g.mem _ hx
    rcases lohi_cases a b with ⟨e1, e2⟩ | ⟨e1, e2⟩
    · rw [e1] at h1; exact ha h1
    · rw [e2] at h2; exact ha h2
theorem Tree.len {ns : List Str} {ties : List (Str × Str)} (h : Tree ns ties) : ties.length + 1 = ns.length := by
  obtain ⟨f, t, g, p1, p2⟩ := h.gr
  rw [p1.length_eq, p2.length_eq]; exact g.len
theorem Tree.mem {ns : List Str} {ties : List (Str × Str)} (h : Tree ns ties) : ∀ p ∈ ties, p.1 ∈ ns ∧ p.2 ∈ ns ∧ slt p.1 p.2 := by
  obtain ⟨f, t, g, p1, p2⟩ := h.gr
  intro p hp
  obtain ⟨h1, h2, h3⟩ := g.mem p (p2.mem_iff.mp hp)
  exact ⟨p1.mem_iff.mpr h1, p1.mem_iff.mpr h2, h3⟩
theorem Tree.nodup {ns : List Str} {ties : List (Str × Str)} (h : Tree ns ties) : ns.Nodup := by
  obtain ⟨f, t, g, p1, p2⟩ := h.gr
  exact p1.nodup_iff.mpr g.nodup
theorem Tree.pos {ns : List Str} {ties : List (Str × Str)} (h : Tree ns ties) : 0 < ns.length := by have := h.len; omega
/-- a saying over a tie -/
theorem Tree.say {ns : List Str} {ties : List (Str × Str)} (h : Tree ns ties) {p : Str × Str} (hp : p ∈ ties) : SayOk ns ties p ∧ SayOk ns ties (p.2, p.1) := by
  obtain ⟨h1, h2, h3⟩ := h.mem p hp
  have n3 : ¬ p.2.cps.toList < p.1.cps.toList := slt_asymm h3
  have h3' : p.1.cps.toList < p.2.cps.toList := h3
  have e1 : (lo p.1 p.2, hi p.1 p.2) = p := by unfold lo hi; rw [if_neg n3, if_pos h3']
  have e2 : (lo p.2 p.1, hi p.2 p.1) = p := by unfold lo hi; rw [if_pos h3', if_neg n3]
  refine ⟨⟨h1, h2, ?_⟩, ⟨h2, h1, ?_⟩⟩
  · unfold tied; rw [e1]; exact decide_eq_true hp
  · unfold tied; rw [e2]; exact decide_eq_true hp
/-! ### a tree drawn -/
def treB : MS := seqS (setS 8 (op2 true idxS (slotO true 6) (mK (op2 true idxS (mK (lstM (consM (mT (op2 false subS (slotO false 7) (mT (ret (.int 1))))) (consM (mT (ret (.int 0))) (consM (mT (call1 (f_law_take 12) (consM (slotO false 0) (consM (slotO false 7) (ret []))))) (consM (mT (opN false max2S (consM (mT (ret (.int 0))) (consM (mT (op2 false subS (mT (op2 false subS (slotO false 7) (mT (ret (.int 1))))) (mT (call1 (f_law_take 12) (consM (slotO false 0) (consM (mT (ret (.int 3))) (ret []))))))) (ret []))))) (ret []))))))) (slotO true 4)))))
    (exS (appM 5 (consM (mT (tupM (consM (mT (opN false min2S (consM (mT (op2 true idxS (slotO true 6) (slotO true 7))) (consM (slotO false 8) (ret []))))) (consM (mT (opN false max2S (consM (mT (op2 true idxS (slotO true 6) (slotO true 7))) (consM (slotO false 8) (ret []))))) (ret []))))) (ret []))))
theorem four {a b c d : Int} {m : Int} (h0 : 0 ≤ m) (h4 : m < 4) (k : Int) (ha : 0 ≤ a ∧ a < k) (hb : 0 ≤ b ∧ b < k) (hc : 0 ≤ c ∧ c < k) (hd : 0 ≤ d ∧ d < k) : ∃ i : Nat, (i : Int) < k ∧ idxS [.lst true [.int a, .int b, .int c, .int d], .int m] = some (.int (i : Int)) := by
  obtain ⟨j, rfl⟩ : ∃ j : Nat, m = (j : Int) := ⟨m.toNat, by omega⟩
  rw [idx_lst]
  have : j = 0 ∨ j = 1 ∨ j = 2 ∨ j = 3 := by omega
  rcases this with rfl | rfl | rfl | rfl
  · exact ⟨a.toNat, by omega, by simp; omega⟩
  · exact ⟨b.toNat, by omega, by simp; omega⟩
  · exact ⟨c.toNat, by omega, by simp; omega⟩
  · exact ⟨d.toNat, by omega, by simp; omega⟩
theorem max0 (x : Int) : ∃ y : Int, max2S [.int 0, .int x] = some (.int y) ∧ 0 ≤ y ∧ (y = 0 ∨ y = x) := by
  by_cases h : 0 < x
  · exact ⟨x, by show some (D.int (if (0 : Int) < x then x else 0)) = _; rw [if_pos h], by omega, .inr rfl⟩
  · exact ⟨0, by show some (D.int (if (0 : Int) < x then x else 0)) = _; rw [if_neg h], by omega, .inl rfl⟩
theorem tre_turn {A B C M : Option D} {mode : Int} {folk : List Str} {t : List (Str × Str)} {k : Nat} {n : Int} {box : D} {p q : Option D} (hm : 0 ≤ mode ∧ mode < 4) (h : BoxOk n box) (hn : n ≤ 100000000) (k0 : 0 < k) (hk : k < folk.length) (hz : folk.length ≤ 1000) (hnd : folk.Nodup) (g : Gr (folk.take k) t) :
    ∃ (t' : List (Str × Str)) (box' : D) (q' : Option D), Gr (folk.take (k + 1)) t' ∧ BoxOk (n + 2) box' ∧
      treB [some box, A, B, M, some (.int mode), some (.lst true (t.map saD)), some (.lst true (folk.map .str)), some (.int (k : Int)), q] = some (.nx [some box', A, B, M, some (.int mode), some (.lst true (t'.map saD)), some (.lst true (folk.map .str)), some (.int (k : Int)), q']) := by
  obtain ⟨v, b1, e1, p1, q1, h1⟩ := p_take (size := (k : Int)) 11 h (by omega) (by omega) (by omega)
  obtain ⟨u, b2, e2, p2, q2, h2⟩ := p_take (size := 3) 11 h1 (by omega) (by omega) (by omega)
  obtain ⟨y, e3, y0, y1⟩ := max0 ((k : Int) - 1 - u)
  obtain ⟨i, hi, e4⟩ := four (m := mode) hm.1 hm.2 (k : Int) (a := (k : Int) - 1) (b := 0) (c := v) (d := y) (by omega) (by omega) (by omega) (by omega)
  have ik : i < k := by omega
  have il : i < folk.length := by omega
  have tl := g.len
  rw [List.length_take] at tl
  have hb : folk[i] ∈ folk.take k := by
    rw [List.mem_take_iff_getElem]
    exact ⟨i, by omega, rfl⟩
  have ha : folk[k] ∉ folk.take k := by
    intro hm
    obtain ⟨j, hj, e⟩ := List.mem_take_iff_getElem.mp hm
    have := (List.getElem_inj hnd).mp e
    omega
  have g' := Gr.leaf g hb ha
  rw [← List.take_succ_eq_append_getElem hk] at g'
  refine ⟨_, b2, some (.str folk[i]), g', by simpa [Int.add_assoc] using h2, ?_⟩
  have o1 := h1.own
  have o2 := h2.own
  have z : t.length < 10000000 := by omega
  have f1 : idxS [.lst true (folk.map .str), .int (i : Int)] = some (.str folk[i]) := by rw [idx_lst]; simp [il]
  have f2 : idxS [.lst true (folk.map .str), .int (k : Int)] = some (.str folk[k]) := by rw [idx_lst]; simp [hk]
  simp [-idx_lst, treB, e1, e2, e3, e4, o1, o2, f1, f2, z, saD]
theorem srcR2_of {ms : M (List Opd)} {os : List Opd} {i j : Int} {r r1 : Rho} (h : ms r = some (.ok os r1)) (hd : opdDs r1 os = some [.int i, .int j]) (hj : -(2 ^ 62) ≤ i ∧ i < 2 ^ 62 ∧ -(2 ^ 62) ≤ j ∧ j < 2 ^ 62) : srcR2 ms r = some (.ok ([], (List.range (j - i).toNat).map fun k : Nat => D.int (i + (k : Int))) r1) := by
  unfold srcR2 bnd
  rw [h]
  dsimp only
  rw [hd]
  dsimp only
  rw [if_pos hj]
theorem p_tree {n : Int} {box : D} {low high : Nat} (h : BoxOk n box) (hn : n ≤ 90000000) (h1 : 1 ≤ low) (h2 : low ≤ high) (h3 : high ≤ 26) :
    ∃ (ns : List Str) (ties : List (Str × Str)) (box' : D), f_law_tree [box, .int (low : Int), .int (high : Int)] = some (.ok (trD ns ties) [box']) ∧ Tree ns ties ∧ low ≤ ns.length ∧ ns.length ≤ high ∧ (∀ s ∈ ns, isNm s) ∧ BoxOk (n + 100) box' := by
  obtain ⟨v, b1, e1, p1, q1, i1⟩ := p_take (size := (high : Int) - (low : Int) + 1) 11 h (by omega) (by omega) (by omega)
  obtain ⟨mode, b2, e2, p2, q2, i2⟩ := p_take (size := 4) 11 i1 (by omega) (by omega) (by omega)
  obtain ⟨much, hmu⟩ : ∃ m : Nat, (low : Int) + v = (m : Int) := ⟨((low : Int) + v).toNat, by omega⟩
  obtain ⟨ns0, b3, e3, l3, nd3, nm3, i3⟩ := p_names (m := much) i2 (by omega) (by omega)
  obtain ⟨fo, b4, e4, pm4, i4⟩ := p_strewn (X := .lst false (ns0.map .str)) (l := ns0.map .str) i3 (by omega) rfl (by simp) (by simp; omega) (pls_strs 49 ns0)
  obtain ⟨folk, rfl⟩ : ∃ f : List Str, fo = f.map .str := by
    have : ∀ d ∈ fo, ∃ s, d = D.str s := fun d hd => by
      obtain ⟨s, _, e⟩ := List.mem_map.mp (pm4.mem_iff.mp hd)
      exact ⟨s, e.symm⟩
    clear e4 pm4
    induction fo with
    | nil => exact ⟨[], rfl⟩
    | cons d fo ih =>
      obtain ⟨s, rfl⟩ := this d List.mem_cons_self
      obtain ⟨f, rfl⟩ := ih fun x hx => this x (List.mem_cons_of_mem _ hx)
      exact ⟨s :: f, rfl⟩
  have str_inj' : Function.Injective D.str := fun a b e => by cases e; rfl
  have pm : folk.Perm ns0 := by
    have hc : ∀ (x : D) (y : List Str), x ∈ y.map D.str ↔ ∃ s ∈ y, D.str s = x := fun x y => List.mem_map
    have key : ∀ {a b : List Str}, (a.map D.str).Perm (b.map D.str) → a.Perm b := by
      intro a b hp
      have := hp.map (fun d => match d with | .str s => s | _ => "")
      simpa [Function.comp_def] using this
    exact key pm4
  have fl : folk.length = much := by rw [pm.length_eq, l3]
  have fnd : folk.Nodup := pm.nodup_iff.mpr nd3
  have fpos : 0 < folk.length := by omega
  obtain ⟨r', eL, t, b5, q7, q8, er, gt, i5⟩ : ∃ r', forL (nameT 7) treB ((List.range (much - 1)).map fun k : Nat => D.int (1 + (k : Int))) [some b4, some (.int (low : Int)), some (.int (high : Int)), some (.int (much : Int)), some (.int mode), some (.lst true []), some (.lst true (folk.map .str)), none, none] = some (.nx r') ∧
      ∃ (t : List (Str × Str)) (b5 : D) (q7 q8 : Option D), r' = [some b5, some (.int (low : Int)), some (.int (high : Int)), some (.int (much : Int)), some (.int mode), some (.lst true (t.map saD)), some (.lst true (folk.map .str)), q7, q8] ∧ Gr folk t ∧ BoxOk (n + 100) b5 := by
    obtain ⟨r', e, t, b5, q7, q8, er, g, bk⟩ := forL_ix (g := nameT 7) (b := treB) (fun i r => ∃ (t : List (Str × Str)) (b5 : D) (q7 q8 : Option D), r = [some b5, some (.int (low : Int)), some (.int (high : Int)), some (.int (much : Int)), some (.int mode), some (.lst true (t.map saD)), some (.lst true (folk.map .str)), q7, q8] ∧ Gr (folk.take (i + 1)) t ∧ BoxOk (n + 40 + 2 * (i : Int)) b5)
      (ds := (List.range (much - 1)).map fun k : Nat => D.int (1 + (k : Int))) (i := 0) (r := [some b4, some (.int (low : Int)), some (.int (high : Int)), some (.int (much : Int)), some (.int mode), some (.lst true []), some (.lst true (folk.map .str)), none, none])
      ⟨[], b4, none, none, rfl, by
        obtain ⟨a, f', rfl⟩ := List.exists_cons_of_length_pos fpos
        exact Gr.one a, i4.mono (by simp; omega)⟩ (fun j d r hj ⟨t, b, q7, q8, er, g, bk⟩ => by
        rw [List.getElem?_map] at hj
        obtain ⟨x, hx, rfl⟩ := Option.map_eq_some_iff.mp hj
        obtain ⟨hlt, ex⟩ := List.getElem?_eq_some_iff.mp hx
        rw [List.getElem_range] at ex
        simp at hlt
        subst ex er
        rw [show 0 + j + 1 = j + 1 by omega] at g
        obtain ⟨t', b', q', g', bk', e⟩ := tre_turn (A := some (.int (low : Int))) (B := some (.int (high : Int))) (C := none) (M := some (.int (much : Int))) (mode := mode) (folk := folk) (k := j + 1) (p := none) (q := q8) ⟨p2, q2⟩ bk (by omega) (by omega) (by omega) (by omega) fnd g
        have c1 : (1 : Int) + (j : Int) = ((j + 1 : Nat) : Int) := by omega
        refine ⟨_, _, by simp; rfl, by rw [c1]; exact e, t', b', _, q', rfl, by rw [show 0 + j + 1 + 1 = j + 1 + 1 by omega]; exact g', bk'.mono (by omega)⟩)
    refine ⟨r', e, t, b5, q7, q8, er, ?_, bk.mono (by simp; omega)⟩
    have : folk.take (0 + ((List.range (much - 1)).map fun k : Nat => D.int (1 + (k : Int))).length + 1) = folk := by
      rw [List.take_of_length_le]
      simp; omega
    rwa [this] at g
  subst er
  obtain ⟨ns, s1, sp1, sw1⟩ := sort_strs folk (by omega) fnd
  have tlen := gt.len
  obtain ⟨ties, s2, sp2, sw2⟩ := sort_sas t (by omega) gt.nodupT true
  refine ⟨ns, ties, b5, ?_, ⟨⟨folk, t, gt, sp1, sp2⟩, sw1, sw2⟩, by rw [sp1.length_eq, fl]; omega, by rw [sp1.length_eq, fl]; omega, fun s hs => nm3 s (pm.mem_iff.mp (sp1.mem_iff.mp hs)), i5⟩
  have o1 := i1.own
  have o2 := i2.own
  have o3 := i3.own
  have o4 := i4.own
  have o5 := i5.own
  have t1 : tupleS [.lst true (ns.map .str)] = some (nmD ns) := rfl
  have t2 : tupleS [.lst true (ties.map saD)] = some (.tup (ties.map saD)) := rfl
  have key : m_law_tree [some box, some (.int (low : Int)), some (.int (high : Int)), none, none, none, none, none, none] = some (.rt (trD ns ties) [some b5, some (.int (low : Int)), some (.int (high : Int)), some (.int (much : Int)), some (.int mode), some (.lst true (t.map saD)), some (.lst true (folk.map .str)), q7, q8]) := by
    unfold m_law_tree
    refine (seq_step (r1 := [some b2, some (.int (low : Int)), some (.int (high : Int)), some (.int (much : Int)), some (.int mode), some (.lst true []), none, none, none]) ?_).trans ?_
    · simp [e1, e2, o1, o2, hmu]
    refine (seq_step (r1 := [some b4, some (.int (low : Int)), some (.int (high : Int)), some (.int (much : Int)), some (.int mode), some (.lst true []), some (.lst true (folk.map .str)), none, none]) ?_).trans ?_
    · have a1 : allOwns (ns0.map .str) = true := by have := allOwn_nm ns0; exact this
      have a2 : allOwns (folk.map .str) = true := by have := allOwn_nm folk; exact this
      have fz := freezes_noOwn _ (noOwns_str ns0)
      simp [e3, e4, o3, o4, a1, a2, fz]
    refine (seq_step (r1 := [some b5, some (.int (low : Int)), some (.int (high : Int)), some (.int (much : Int)), some (.int mode), some (.lst true (t.map saD)), some (.lst true (folk.map .str)), q7, q8]) ?_).trans ?_
    · refine forS_step (l := ([], (List.range ((much : Int) - 1).toNat).map fun k : Nat => D.int (1 + (k : Int)))) (srcR2_of (os := [.t (.int 1), .v 3]) (i := 1) (j := (much : Int)) rfl rfl ⟨by omega, by omega, by omega, by omega⟩) ?_
      rw [show ((much : Int) - 1).toNat = much - 1 by omega]
      exact eL
    · simp [s1, s2, t1, t2, trD]
  exact run_rt (N := 9) (np := 3) (nio := 1) (m := m_law_tree) key rfl rfl
end Z

set_option Elab.async false
set_option linter.all false
set_option maxRecDepth 100000
set_option maxHeartbeats 400000
/-! P17: rows drawn. -/
namespace Z
open PySem
theorem ne_nilT {l : List D} (h : pls 49 l = true) : neS [.tup l, .tup []] = some (.bl (decide (l ≠ []))) := by
  have e : PyData.eqv (py (.tup l)) (py (.tup [])) = decide (l = []) := by
    cases l with
    | nil => rfl
    | cons a l => rfl
  simp only [neS, e, show pl 50 (.tup l) = true from h, show pl 50 (.tup []) = true from rfl, Bool.and_self, if_true]
  cases l <;> rfl
/-- a saying of a tree: a tie, this way or that -/
def Say (ties : List (Str × Str)) (p : Str × Str) : Prop := p ∈ ties ∨ (p.2, p.1) ∈ ties
theorem Tree.sayOk {ns : List Str} {ties : List (Str × Str)} (h : Tree ns ties) {p : Str × Str} (hp : Say ties p) : SayOk ns ties p := by
  rcases hp with hp | hp
  · exact (h.say hp).1
  · exact (h.say hp).2
theorem step_one {v : Int} (h0 : 0 ≤ v) (h2 : v < 2) : ∃ k : Int, idxS [.lst true [.int 1, .int (-1)], .int v] = some (.int k) ∧ (k = 1 ∨ k = -1) := by
  obtain ⟨j, rfl⟩ : ∃ j : Nat, v = (j : Int) := ⟨v.toNat, by omega⟩
  rw [idx_lst]
  have : j = 0 ∨ j = 1 := by omega
  rcases this with rfl | rfl
  · exact ⟨1, rfl, .inl rfl⟩
  · exact ⟨-1, rfl, .inr rfl⟩
theorem step_sa (p : Str × Str) {k : Int} (h : k = 1 ∨ k = -1) : ∃ q : Str × Str, stepS [saD p, .int k] = some (saD q) ∧ (q = p ∨ q = (p.2, p.1)) := by
  rcases h with rfl | rfl
  · exact ⟨p, rfl, .inl rfl⟩
  · exact ⟨(p.2, p.1), rfl, .inr rfl⟩
@[simp] theorem neg_int (i : Int) : negS [.int i] = some (.int (-i)) := rfl
theorem allOwn_sa (p : Str × Str) : allOwn (saD p) = true := rfl
theorem allOwns_sas (l : List (Str × Str)) : allOwns (l.map saD) = true := by
  induction l with
  | nil => rfl
  | cons a l ih => simp [allOwns, ih, allOwn_sa]
def rowB : MS := seqS (setS 5 (call1 f_law_of (consM (slotO false 0) (consM (mT (op2 true idxS (slotO true 1) (mK (ret (.int 1))))) (ret [])))))
    (exS (appM 3 (consM (mT (op2 true stepS (slotO true 5) (mK (op2 true idxS (mK (lstM (consM (mT (ret (.int 1))) (consM (mT (op1 false negS (mT (ret (.int 1))))) (ret []))))) (mK (call1 (f_law_take 12) (consM (slotO false 0) (consM (mT (ret (.int 2))) (ret []))))))))) (ret []))))
theorem row_turn {ns : List Str} {ties row : List (Str × Str)} {A q4 q5 : Option D} {n : Int} {box : D} (h : BoxOk n box) (hn : n ≤ 100000000) (h0 : ties ≠ []) (hz : ties.length ≤ 1000) (hr : row.length ≤ 100000) :
    ∃ (p : Str × Str) (box' : D) (q : Option D), Say ties p ∧ BoxOk (n + 2) box' ∧
      rowB [some box, some (trD ns ties), A, some (.lst true (row.map saD)), q4, q5] = some (.nx [some box', some (trD ns ties), A, some (.lst true ((row ++ [p]).map saD)), q4, q]) := by
  obtain ⟨d, b1, e1, md, h1⟩ := p_of_t (l := ties.map saD) h hn (by simpa using h0) (by simp; omega) (noOwns_sas ties) (allOwns_sas ties)
  obtain ⟨p, hp, rfl⟩ := List.mem_map.mp md
  obtain ⟨v, b2, e2, v0, v2, h2⟩ := p_take (size := 2) 11 h1 (by omega) (by omega) (by omega)
  obtain ⟨k, e3, hk⟩ := step_one v0 v2
  obtain ⟨q, e4, hq⟩ := step_sa p hk
  refine ⟨q, b2, some (saD p), ?_, by simpa [Int.add_assoc] using h2, ?_⟩
  · rcases hq with rfl | rfl
    · exact .inl hp
    · exact .inr hp
  · have o1 := h1.own
    have o2 := h2.own
    have z : row.length < 10000000 := by omega
    have fz : freezes (ties.map saD) = ties.map saD := freezes_noOwn _ (noOwns_sas ties)
    simp [rowB, e1, e2, e3, e4, o1, o2, z, allOwn_sa, fz]
theorem p_row {ns : List Str} {ties : List (Str × Str)} {n : Int} {box : D} {much : Nat} (h : BoxOk n box) (hn : n ≤ 90000000) (hT : Tree ns ties) (hz : ns.length ≤ 1000) (hm : much ≤ 1000) :
    ∃ (row : List (Str × Str)) (box' : D), f_law_row [box, trD ns ties, .int (much : Int)] = some (.ok (rwD true row) [box']) ∧ (∀ p ∈ row, Say ties p) ∧ row.length ≤ much ∧ BoxOk (n + 2 * (much : Int)) box' := by
  have tl := hT.len
  obtain ⟨m, hm1, hm2, hm3⟩ : ∃ m : Nat, mulS [.int (much : Int), .int (if decide (ties ≠ []) then 1 else 0)] = some (.int (m : Int)) ∧ m ≤ much ∧ (0 < m → ties ≠ []) := by
    by_cases q : ties = []
    · refine ⟨0, ?_, by omega, by omega⟩
      have := mul_int (i := (much : Int)) (j := 0) (.inr (by omega))
      simp [q, this]
    · refine ⟨much, ?_, by omega, fun _ => q⟩
      have := mul_int (i := (much : Int)) (j := 1) (.inr (by omega))
      simp [q, this]
  obtain ⟨r', e, row, b, q4, q5, er, hr, hl, bk⟩ := forL_ix (g := nameT 4) (b := rowB) (fun i r => ∃ (row : List (Str × Str)) (b : D) (q4 q5 : Option D), r = [some b, some (trD ns ties), some (.int (much : Int)), some (.lst true (row.map saD)), q4, q5] ∧ (∀ p ∈ row, Say ties p) ∧ row.length ≤ i ∧ BoxOk (n + 2 * (i : Int)) b)
    (ds := (List.range m).map fun i : Nat => D.int (0 + (i : Int))) (i := 0) (r := [some box, some (trD ns ties), some (.int (much : Int)), some (.lst true []), none, none])
    ⟨[], box, none, none, rfl, by simp, by simp, by simpa using h⟩ (fun j d r hj ⟨row, b, q4, q5, er, hr, hl, bk⟩ => by
      have jl : j < m := by
        have := (List.getElem?_eq_some_iff.mp hj).1
        simpa using this
      subst er
      obtain ⟨p, b', q, hp, bk', e⟩ := row_turn (ns := ns) (ties := ties) (row := row) (A := some (.int (much : Int))) (q4 := some d) (q5 := q5) bk (by omega) (hm3 (by omega)) (by omega) (by omega)
      refine ⟨_, _, by simp <;> rfl, e, row ++ [p], b', _, _, rfl, fun x hx => ?_, by simp; omega, bk'.mono (by omega)⟩
      rcases List.mem_append.mp hx with hx | hx
      · exact hr x hx
      · simp at hx; subst hx; exact hp)
  subst er
  refine ⟨row, b, ?_, hr, by simp at hl; omega, bk.mono (by simp; omega)⟩
  have e5 := ne_nilT (l := ties.map saD) (pls_sas 48 ties)
  have e5' : neS [.tup (ties.map saD), .tup []] = some (.bl (decide (ties ≠ []))) := by rw [e5]; simp
  have key : m_law_row [some box, some (trD ns ties), some (.int (much : Int)), none, none, none] = some (.rt (rwD true row) [some b, some (trD ns ties), some (.int (much : Int)), none, q4, q5]) := by
    unfold m_law_row
    refine (seq_step (r1 := [some box, some (trD ns ties), some (.int (much : Int)), some (.lst true []), none, none]) ?_).trans ?_
    · simp
    refine (seq_step (r1 := [some b, some (trD ns ties), some (.int (much : Int)), some (.lst true (row.map saD)), q4, q5]) ?_).trans ?_
    · refine forS_step (l := ([], (List.range ((m : Int)).toNat).map fun i : Nat => D.int (0 + (i : Int)))) (r1 := [some box, some (trD ns ties), some (.int (much : Int)), some (.lst true []), none, none]) (srcR1_of (k := (m : Int)) (os := [.t (.int (m : Int))]) (r1 := [some box, some (trD ns ties), some (.int (much : Int)), some (.lst true []), none, none]) ?_ rfl ⟨by omega, by omega⟩) ?_
      · simp [-int_bl, e5']
        have z := int_bl (decide (ties ≠ []))
        simp at z hm1
        simp [z, hm1]
      · rw [Int.toNat_natCast]
        exact e
    · simp [rwD]
  exact run_rt (N := 6) (np := 3) (nio := 1) (m := m_law_row) key rfl rfl
end Z

set_option Elab.async false
set_option linter.all false
set_option maxRecDepth 100000
set_option maxHeartbeats 400000
/-! P18: any lists drawn. -/
namespace Z
open PySem
def spW : List Str := ["", "a1", "b c", "aaaaaaa", "x y", "A", "9"]
theorem spW_nodup : spW.Nodup := by decide +kernel
theorem spW_no : ∀ s ∈ spW, ¬ isNm s := by
  intro s hs h
  unfold isNm at h
  have key : ∀ s ∈ spW, (s.length < 1 ∨ 6 < s.length) ∨ (s.cps.toList.any fun c => decide (c < 97 ∨ 122 < c)) = true := by decide +kernel
  rcases key s hs with k | k
  · omega
  · rw [List.any_eq_true] at k
    obtain ⟨c, hc, h2⟩ := k
    have h3 := h.2.2 c hc
    have h4 := of_decide_eq_true h2
    omega
theorem spN_nodup {ns : List Str} (h : ns.Nodup) (k : ∀ s ∈ ns, isNm s) : (spW ++ ns).Nodup :=
  List.nodup_append.mpr ⟨spW_nodup, h, fun x hx y hy e => spW_no x hx (e ▸ k y hy)⟩
theorem cut_lowD (l : List D) (s : Nat) : cutD l none (some (s : Int)) = l.take s := by
  unfold cutD
  rw [HT.sIx_nat, HT.sIx_none, List.drop_zero, Nat.sub_zero]
  by_cases h : s ≤ l.length
  · rw [Nat.min_eq_left h]
  · rw [Nat.min_eq_right (by omega), List.take_of_length_le (Nat.le_refl _), List.take_of_length_le (by omega)]
theorem perm_strs {a : List D} {b : List Str} (h : a.Perm (b.map D.str)) : ∃ f : List Str, a = f.map D.str ∧ f.Perm b := by
  have key : ∀ {a b : List Str}, (a.map D.str).Perm (b.map D.str) → a.Perm b := by
    intro a b hp
    have := hp.map (fun d => match d with | .str s => s | _ => "")
    simpa [Function.comp_def] using this
  have h1 : ∀ d ∈ a, ∃ s, d = D.str s := fun d hd => by
    obtain ⟨s, _, e⟩ := List.mem_map.mp (h.mem_iff.mp hd)
    exact ⟨s, e.symm⟩
  obtain ⟨f, rfl⟩ : ∃ f : List Str, a = f.map .str := by
    clear h
    induction a with
    | nil => exact ⟨[], rfl⟩
    | cons d fo ih =>
      obtain ⟨s, rfl⟩ := h1 d List.mem_cons_self
      obtain ⟨f, rfl⟩ := ih fun x hx => h1 x (List.mem_cons_of_mem _ hx)
      exact ⟨s :: f, rfl⟩
  exact ⟨f, rfl, key h⟩
theorem three {a b c m : Int} (h0 : 0 ≤ m) (h3 : m < 3) : ∃ x : Int, idxS [.lst true [.int a, .int b, .int c], .int m] = some (.int x) ∧ (x = a ∨ x = b ∨ x = c) := by
  obtain ⟨j, rfl⟩ : ∃ j : Nat, m = (j : Int) := ⟨m.toNat, by omega⟩
  rw [idx_lst]
  have : j = 0 ∨ j = 1 ∨ j = 2 := by omega
  rcases this with rfl | rfl | rfl
  · exact ⟨a, rfl, .inl rfl⟩
  · exact ⟨b, rfl, .inr (.inl rfl)⟩
  · exact ⟨c, rfl, .inr (.inr rfl)⟩
def anyM : M D := opN true tupleS (consM (mK (op3 true slcZ (mK (call1 f_law_strewn (consM (slotO false 0) (consM (slotO false 2) (ret []))))) noB (intB (mT (call1 (f_law_take 12) (consM (slotO false 0) (consM (slotO false 3) (ret [])))))))) (ret []))
theorem any_turn {A q : Option D} {ws : List Str} {size n : Int} {box : D} (h : BoxOk n box) (hn : n ≤ 90000000) (hw : ws.length ≤ 100) (hs : 0 < size ∧ size ≤ 100) :
    ∃ (f : List Str) (box' : D), (∃ g : List Str, g.Perm ws ∧ f.Sublist g) ∧ BoxOk (n + 101) box' ∧
      anyM [some box, A, some (.lst true (ws.map .str)), some (.int size), q] = some (.ok (nmD f) [some box', A, some (.lst true (ws.map .str)), some (.int size), q]) := by
  obtain ⟨fo, b1, e1, pm, h1⟩ := p_strewn (X := .lst false (ws.map .str)) (l := ws.map .str) h (by omega) rfl (by simp) (by simp; omega) (pls_strs 49 ws)
  obtain ⟨g, rfl, pg⟩ := perm_strs pm
  obtain ⟨v, b2, e2, v0, v1, h2⟩ := p_take (size := size) 11 h1 (by simp; omega) (by omega) (by omega)
  obtain ⟨k, rfl⟩ : ∃ k : Nat, v = (k : Int) := ⟨v.toNat, by omega⟩
  refine ⟨g.take k, b2, ⟨g, pg, List.take_sublist _ _⟩, h2.mono (by simp; omega), ?_⟩
  have o1 := h1.own
  have o2 := h2.own
  have a1 : allOwns (g.map .str) = true := by have := allOwn_nm g; exact this
  have fz : freezes (ws.map D.str) = ws.map .str := freezes_noOwn _ (noOwns_str ws)
  have c1 : slcZ [.lst true (g.map .str), .non, .int (k : Int)] = some (.lst true ((g.take k).map .str)) := by
    show some (D.lst true (cutD _ none (some (k : Int)))) = _
    rw [cut_lowD, ← List.map_take]
  have t1 : tupleS [.lst true ((g.take k).map .str)] = some (nmD (g.take k)) := rfl
  simp [-List.map_take, anyM, e1, e2, o1, o2, a1, fz, c1, t1]
theorem p_any_lists {ns : List Str} {ties : List (Str × Str)} {n : Int} {box : D} (h : BoxOk n box) (hn : n ≤ 80000000) (hnd : ns.Nodup) (hz : ns.length ≤ 26) (hnm : ∀ s ∈ ns, isNm s) :
    ∃ (ls : List (List Str)) (box' : D), f_law_any_lists [box, trD ns ties] = some (.ok (stD ls) [box']) ∧ StOk ns (spW ++ ns) ls ∧ BoxOk (n + 4000) box' := by
  obtain ⟨v, b1, e1, v0, v1, h1⟩ := p_take (size := 3) 11 h (by omega) (by omega) (by omega)
  obtain ⟨size, e2, hs⟩ := three (a := 6) (b := 6) (c := 20) v0 v1
  have wl : (spW ++ ns).length ≤ 100 := by simp [spW]; omega
  have wnd := spN_nodup hnd hnm
  obtain ⟨xs, r', e3, ls, b2, er, ex, l3, nd3, sub3, h3⟩ := lcL_ix (vs := [4]) (g := nameT 4) (m := anyM) (fun i r acc => ∃ (ls : List (List Str)) (b : D), r = [some b, some (trD ns ties), some (.lst true ((spW ++ ns).map .str)), some (.int size), none] ∧ acc = ls.map nmD ∧ ls.length = i ∧ (∀ l ∈ ls, l.Nodup) ∧ (∀ l ∈ ls, ∀ x ∈ l, x ∈ spW ++ ns) ∧ BoxOk (n + 1 + 101 * (i : Int)) b)
    (ds := ns.map .str) (i := 0) (acc := []) (r := [some b1, some (trD ns ties), some (.lst true ((spW ++ ns).map .str)), some (.int size), none])
    ⟨[], b1, rfl, rfl, rfl, by simp, by simp, h1.mono (by omega)⟩ (fun j d r acc hj ⟨ls, b, er, ex, l3, nd3, sub3, h3⟩ => by
      have jl : j < ns.length := by
        have := (List.getElem?_eq_some_iff.mp hj).1
        simpa using this
      subst er
      obtain ⟨f, b', ⟨g, pg, sg⟩, h4, e4⟩ := any_turn (A := some (trD ns ties)) (q := some d) (ws := spW ++ ns) (size := size) h3 (by omega) wl (by omega)
      refine ⟨_, nmD f, _, by simp <;> rfl, e4, ls ++ [f], b', by simp, by simp [ex], by simp; omega, fun l hl => ?_, fun l hl x hx => ?_, h4.mono (by omega)⟩
      · rcases List.mem_append.mp hl with hl | hl
        · exact nd3 l hl
        · simp at hl; subst hl; exact (pg.nodup_iff.mpr wnd).sublist sg
      · rcases List.mem_append.mp hl with hl | hl
        · exact sub3 l hl x hx
        · simp at hl; subst hl; exact pg.mem_iff.mp (sg.subset hx))
  subst er
  rw [List.nil_append] at ex
  subst ex
  have lz : ls.length = ns.length := by simpa using l3
  refine ⟨ls, b2, ?_, ⟨lz, nd3, sub3⟩, h3.mono (by simp; omega)⟩
  have o1 := h1.own
  have a1 : listS [nmD ns] = some (.lst true (ns.map .str)) := rfl
  have a2 : addS [.lst true (spW.map .str), .lst true (ns.map .str)] = some (.lst true ((spW ++ ns).map .str)) := by
    have : (spW.map D.str).length + (ns.map D.str).length ≤ 10000000 := by simp [spW]; omega
    simp only [addS, if_pos this, List.map_append]
  have a3 : tupleS [.lst true (ls.map nmD)] = some (stD ls) := rfl
  have nsl : (ns.map D.str).length ≤ 10000000 := by simp; omega
  have key : m_law_any_lists [some box, some (trD ns ties), none, none, none] = some (.rt (stD ls) [some b2, some (trD ns ties), some (.lst true ((spW ++ ns).map .str)), some (.int size), none]) := by
    unfold m_law_any_lists
    refine (seq_step (r1 := [some box, some (trD ns ties), some (.lst true ((spW ++ ns).map .str)), none, none]) ?_).trans ?_
    · have : [D.str "", D.str "a1", D.str "b c", D.str "aaaaaaa", D.str "x y", D.str "A", D.str "9"] = spW.map .str := rfl
      simp [-List.map_append, a1]
      rw [this, a2]
      simp
    refine (seq_step (r1 := [some b1, some (trD ns ties), some (.lst true ((spW ++ ns).map .str)), some (.int size), none]) ?_).trans ?_
    · simp [-List.map_append, e1, e2, o1]
    · unfold anyM at e3
      simp at nsl
      simp [-List.map_append, e3, nsl, a3]
  exact run_rt (N := 5) (np := 2) (nio := 1) (m := m_law_any_lists) key rfl rfl
end Z

set_option Elab.async false
set_option linter.all false
set_option maxRecDepth 100000
set_option maxHeartbeats 400000
/-! P19: what rows do to any lists: the plain law. -/
namespace Z
open PySem
theorem joinF_app (a b c : List Str) : joinF a (b ++ c) = joinF (joinF a b) c := by unfold joinF; rw [List.foldl_append]
theorem joinF_assoc : ∀ (c a b : List Str), joinF a (joinF b c) = joinF (joinF a b) c
  | [], _, _ => rfl
  | w :: c, a, b => by
    rw [joinF_cons, joinF_assoc c, joinF_cons]
    by_cases h : w ∈ b
    · rw [if_pos h, if_pos (mem_joinF.mpr (.inr h))]
    · rw [if_neg h, joinF_app]
      rfl
theorem joinF_sub : ∀ {b a : List Str}, (∀ x ∈ b, x ∈ a) → joinF a b = a
  | [], _, _ => rfl
  | w :: b, a, h => by
    rw [joinF_cons, if_pos (h w List.mem_cons_self)]
    exact joinF_sub fun x hx => h x (List.mem_cons_of_mem _ hx)
theorem joinF_new : ∀ {b a : List Str}, b.Nodup → (∀ x ∈ b, x ∉ a) → joinF a b = a ++ b
  | [], a, _, _ => by simp [joinF]
  | w :: b, a, h, k => by
    have h' := List.nodup_cons.mp h
    rw [joinF_cons, if_neg (k w List.mem_cons_self), joinF_new h'.2, List.append_assoc]
    · rfl
    · intro x hx hm
      rcases List.mem_append.mp hm with hm | hm
      · exact k x (List.mem_cons_of_mem _ hx) hm
      · simp at hm; subst hm; exact h'.1 hx
theorem joinF_pre : ∀ (b a : List Str), a <+: joinF a b
  | [], a => List.prefix_rfl
  | w :: b, a => by
    rw [joinF_cons]
    by_cases h : w ∈ a
    · rw [if_pos h]; exact joinF_pre b a
    · rw [if_neg h]; exact (List.prefix_append a [w]).trans (joinF_pre b _)
section
variable (ns : List Str) (ls : List (List Str))
theorem byNF_app (a b here : List Str) : byNF ns ls (a ++ b) here = byNF ns ls b (byNF ns ls a here) := by unfold byNF; rw [List.foldl_append]
theorem byNF_cons (n : Str) (a here : List Str) : byNF ns ls (n :: a) here = byNF ns ls a (joinF here (ls.getD (plF ns n) [])) := rfl
theorem mem_byNF : ∀ {names here : List Str} {x : Str}, x ∈ byNF ns ls names here ↔ x ∈ here ∨ ∃ n ∈ names, x ∈ ls.getD (plF ns n) []
  | [], here, x => by simp [byNF]
  | n :: names, here, x => by
    rw [byNF_cons, mem_byNF (names := names), mem_joinF]
    simp only [List.mem_cons, or_assoc]
    constructor
    · rintro (h | h | ⟨m, h1, h2⟩)
      · exact .inl h
      · exact .inr ⟨n, .inl rfl, h⟩
      · exact .inr ⟨m, .inr h1, h2⟩
    · rintro (h | ⟨m, rfl | h1, h2⟩)
      · exact .inl h
      · exact .inr (.inl h2)
      · exact .inr (.inr ⟨m, h1, h2⟩)
theorem joinF_byNF : ∀ (names a here : List Str), joinF a (byNF ns ls names here) = byNF ns ls names (joinF a here)
  | [], _, _ => rfl
  | n :: names, a, here => by rw [byNF_cons, joinF_byNF names, joinF_assoc]; rfl
theorem byNF_joinF : ∀ (si sj here : List Str), byNF ns ls (joinF sj si) here = byNF ns ls (sj ++ si) here
  | [], sj, here => by rw [List.append_nil]; rfl
  | w :: si, sj, here => by
    rw [joinF_cons]
    by_cases h : w ∈ sj
    · rw [if_pos h, byNF_joinF si, byNF_app, byNF_app, byNF_cons]
      rw [joinF_sub fun x hx => (mem_byNF ns ls).mpr (.inr ⟨w, h, hx⟩)]
    · rw [if_neg h, byNF_joinF si, List.append_assoc]; rfl
theorem getD_map {α β : Type} (f : α → β) (l : List α) (i : Nat) (d : α) : (l.map f).getD i (f d) = f (l.getD i d) := by
  simp only [List.getD_eq_getElem?_getD, List.getElem?_map]
  cases l[i]? <;> rfl
theorem byF_he (st : List (List Str)) (p : Str × Str) : byF ns ls (heF ns st p) = heF ns (byF ns ls st) p := by
  unfold heF byF
  rw [List.map_set]
  have e : ∀ i, (st.map fun names => byNF ns ls names []).getD i [] = byNF ns ls (st.getD i []) [] := fun i => getD_map (fun names => byNF ns ls names []) st i []
  rw [e, e, byNF_joinF, byNF_app, joinF_byNF]
  rfl
theorem byF_do : ∀ (row : List (Str × Str)) (st : List (List Str)), byF ns ls (doF ns st row) = doF ns (byF ns ls st) row
  | [], _ => rfl
  | p :: row, st => by
    show byF ns ls (doF ns (heF ns st p) row) = doF ns (heF ns (byF ns ls st) p) row
    rw [byF_do row, byF_he]
end
theorem plF_get {ns : List Str} (h : ns.Nodup) {i : Nat} (hi : i < ns.length) : plF ns ns[i] = i := by
  obtain ⟨e, lt⟩ := plF_mem (List.getElem_mem hi)
  obtain ⟨h1, h2, _⟩ := List.findIdx?_eq_some_iff_getElem.mp e
  have : ns[plF ns ns[i]] = ns[i] := by simpa using h2
  exact (List.getElem_inj h).mp this
theorem byF_ba {ns W : List Str} {ls : List (List Str)} (hn : ns.Nodup) (h : StOk ns W ls) : byF ns ls (baF ns) = ls := by
  refine List.ext_getElem (by simp [byF, baF, h.len]) fun i h1 h2 => ?_
  have hi : i < ns.length := by rw [← h.len]; exact h2
  have e : ls.getD (plF ns ns[i]) [] = ls[i] := by rw [plF_get hn hi]; simp [h2]
  simp only [byF, baF, List.getElem_map]
  rw [byNF_cons, e, joinF_new (h.nd _ (List.getElem_mem h2)) (by simp)]
  rfl
/-- a row does to any lists what its stand tells -/
theorem led_by {ns W : List Str} {ls : List (List Str)} (hn : ns.Nodup) (h : StOk ns W ls) (row : List (Str × Str)) : byF ns ls (doF ns (baF ns) row) = doF ns ls row := by rw [byF_do, byF_ba hn h]
theorem doF_app (ns : List Str) (ls : List (List Str)) (a b : List (Str × Str)) : doF ns ls (a ++ b) = doF ns (doF ns ls a) b := by unfold doF; rw [List.foldl_append]
/-! ### lists grow -/
def Ext : List (List Str) → List (List Str) → Prop
  | [], [] => True
  | a :: r, b :: s => a <+: b ∧ Ext r s
  | _, _ => False
theorem Ext.refl : ∀ l, Ext l l
  | [] => trivial
  | a :: r => ⟨List.prefix_rfl, Ext.refl r⟩
theorem Ext.trans : ∀ {a b c}, Ext a b → Ext b c → Ext a c
  | [], [], [], _, _ => trivial
  | _ :: _, _ :: _, _ :: _, h, k => ⟨h.1.trans k.1, h.2.trans k.2⟩
theorem Ext.set : ∀ {l : List (List Str)} {j : Nat} {x : List Str}, l.getD j [] <+: x → Ext l (l.set j x)
  | [], _, _, _ => trivial
  | a :: l, 0, x, h => ⟨h, Ext.refl l⟩
  | a :: l, j + 1, x, h => ⟨List.prefix_rfl, Ext.set (l := l) (j := j) (by simpa using h)⟩
theorem Ext.he (ns : List Str) (ls : List (List Str)) (p : Str × Str) : Ext ls (heF ns ls p) := Ext.set (joinF_pre _ _)
theorem Ext.do_ (ns : List Str) : ∀ (row : List (Str × Str)) (ls : List (List Str)), Ext ls (doF ns ls row)
  | [], ls => Ext.refl ls
  | p :: row, ls => (Ext.he ns ls p).trans (Ext.do_ ns row _)
def mu (l : List (List Str)) : Nat := (l.map List.length).sum
theorem Ext.mu : ∀ {a b}, Ext a b → Z.mu a ≤ Z.mu b ∧ (a ≠ b → Z.mu a < Z.mu b)
  | [], [], _ => ⟨Nat.le_refl _, fun h => absurd rfl h⟩
  | x :: a, y :: b, h => by
    obtain ⟨h1, h2⟩ := h
    obtain ⟨i1, i2⟩ := Ext.mu h2
    have l1 := h1.length_le
    simp only [Z.mu, List.map_cons, List.sum_cons] at i1 i2 ⊢
    refine ⟨by omega, fun ne => ?_⟩
    by_cases e : x = y
    · subst e
      have : a ≠ b := fun e => ne (by rw [e])
      have := i2 this
      omega
    · have : x.length ≠ y.length := fun el => e (h1.eq_of_length el)
      omega
theorem mu_ba (ns : List Str) : mu (baF ns) = ns.length := by
  induction ns with
  | nil => rfl
  | cons a ns ih =>
    show 1 + mu (baF ns) = ns.length + 1
    rw [ih]; omega
theorem mu_le {l : List (List Str)} {k : Nat} (h : ∀ x ∈ l, x.length ≤ k) : mu l ≤ l.length * k := by
  induction l with
  | nil => simp [mu]
  | cons a l ih =>
    have h1 := h a List.mem_cons_self
    have h2 := ih fun x hx => h x (List.mem_cons_of_mem _ hx)
    simp only [mu, List.map_cons, List.sum_cons, List.length_cons] at h2 ⊢
    rw [Nat.succ_mul]
    omega
theorem mu_st {ns : List Str} {ls : List (List Str)} (h : StOk ns ns ls) : mu ls ≤ ns.length * ns.length := by
  have := mu_le (l := ls) (k := ns.length) fun x hx => nodup_len (h.nd x hx) (h.sub x hx)
  rwa [h.len] at this
/-- so many goings of a row -/
def itF (ns : List Str) (row : List (Str × Str)) : Nat → List (List Str) → List (List Str)
  | 0, l => l
  | k + 1, l => itF ns row k (doF ns l row)
theorem itF_add (ns : List Str) (row : List (Str × Str)) : ∀ (j k : Nat) (l : List (List Str)), itF ns row (j + k) l = itF ns row k (itF ns row j l)
  | 0, k, l => by rw [Nat.zero_add]; rfl
  | j + 1, k, l => by rw [show j + 1 + k = (j + k) + 1 by omega]; exact itF_add ns row j k _
theorem itF_fix {ns : List Str} {row : List (Str × Str)} : ∀ {k : Nat} {l : List (List Str)}, doF ns l row = l → itF ns row k l = l
  | 0, _, _ => rfl
  | k + 1, l, h => by show itF ns row k (doF ns l row) = l; rw [h]; exact itF_fix h
theorem StOk.it {ns W : List Str} {row : List (Str × Str)} : ∀ {k : Nat} {ls : List (List Str)}, StOk ns W ls → StOk ns W (itF ns row k ls)
  | 0, _, h => h
  | k + 1, _, h => StOk.it (k := k) (h.do_ (row := row))
theorem go_spec (ns : List Str) (row : List (Str × Str)) (many : Int) : ∀ (k : Nat) (here : List (List Str)) (often : Int), often ≤ many → ∃ j : Nat, j ≤ k ∧ goF ns row many k here often = (often + j, itF ns row j here) ∧ often + j ≤ many ∧ mu here + j ≤ mu (itF ns row j here) ∧
    (j < k → often + j = many ∨ doF ns (itF ns row j here) row = itF ns row j here)
  | 0, here, often, h => ⟨0, Nat.le_refl _, by simp [goF, itF], by simpa using h, by simp [itF], fun z => absurd z (Nat.lt_irrefl _)⟩
  | k + 1, here, often, h => by
    by_cases hc : often < many ∧ doF ns here row ≠ here
    · obtain ⟨j, h1, h2, h3, h4, h5⟩ := go_spec ns row many k (doF ns here row) (often + 1) (by omega)
      have m := (Ext.do_ ns row here).mu.2 (Ne.symm hc.2)
      refine ⟨j + 1, by omega, ?_, by omega, ?_, fun z => ?_⟩
      · show (if _ then _ else _) = _
        rw [if_pos hc, h2]
        show (often + 1 + (j : Int), _) = (often + ((j + 1 : Nat) : Int), _)
        rw [show often + 1 + (j : Int) = often + ((j + 1 : Nat) : Int) by omega]
        rfl
      · show mu here + (j + 1) ≤ mu (itF ns row j (doF ns here row))
        omega
      · rcases h5 (by omega) with z | z
        · exact .inl (by omega)
        · exact .inr z
    · refine ⟨0, by omega, ?_, by simpa using h, by simp [itF], fun _ => ?_⟩
      · show (if _ then _ else _) = _
        rw [if_neg hc]
        simp [itF]
      · by_cases q : often < many
        · refine .inr ?_
          show doF ns here row = here
          by_cases z : doF ns here row = here
          · exact z
          · exact absurd ⟨q, z⟩ hc
        · exact .inl (by simp; omega)
/-- goings of a row from bare: what is told of them -/
theorem go_ba {ns : List Str} (row : List (Str × Str)) {many : Int} (h0 : 0 < ns.length) (hm : 0 ≤ many) : ∃ j : Nat, goF ns row many (ns.length * ns.length) (baF ns) 0 = ((j : Int), itF ns row j (baF ns)) ∧ goE ns row many (goF ns row many (ns.length * ns.length) (baF ns) 0) ∧ j < ns.length * ns.length ∧
    ((j : Int) = many ∨ doF ns (itF ns row j (baF ns)) row = itF ns row j (baF ns)) ∧ (j : Int) ≤ many := by
  obtain ⟨j, h1, h2, h3, h4, h5⟩ := go_spec ns row many (ns.length * ns.length) (baF ns) 0 hm
  have b := baF_ok (ns := ns) (W := ns) fun _ h => h
  have m1 := mu_st (b.it (row := row) (k := j))
  have m0 := mu_ba ns
  have jl : j < ns.length * ns.length := by omega
  have h6 := h5 jl
  rw [Int.zero_add] at h2 h3 h6
  refine ⟨j, h2, ?_, jl, h6, h3⟩
  rw [h2]
  intro hc
  rcases h6 with z | z
  · have := hc.1; dsimp only at this; omega
  · exact hc.2 z
theorem go_it {ns : List Str} (row : List (Str × Str)) (m : Nat) (h0 : 0 < ns.length) : (goF ns row (m : Int) (ns.length * ns.length) (baF ns) 0).2 = itF ns row m (baF ns) := by
  obtain ⟨j, h1, _, _, h4, h5⟩ := go_ba row (many := (m : Int)) h0 (by omega)
  rw [h1]
  rcases h4 with h4 | h4
  · have : j = m := by omega
    rw [this]
  · obtain ⟨d, rfl⟩ : ∃ d, m = j + d := ⟨m - j, by omega⟩
    rw [itF_add]
    exact (itF_fix h4).symm
end Z

set_option Elab.async false
set_option linter.all false
set_option maxRecDepth 100000
set_option maxHeartbeats 1000000
/-! P20: a tree, rows, lists: what is told of them. -/
namespace Z
open PySem
/-! ### more to reckon with -/
@[simp] theorem allOwn_tr (ns : List Str) (l : List (Str × Str)) : allOwn (trD ns l) = true := by
  have := allOwn_nm ns
  simp [trD, this, allOwns_sas]
@[simp] theorem allOwn_rw (l : List (Str × Str)) : allOwn (rwD true l) = true := by simp [rwD, allOwns_sas]
@[simp] theorem noOwn_rw (l : List (Str × Str)) : noOwn (rwD false l) = true := by simp [rwD]
@[simp] theorem knT_rw (o : Bool) (l : List (Str × Str)) : knT (rwD o l) = rwD o l := knT_of (by simp)
theorem add_rw (o o' : Bool) {a b : List (Str × Str)} (h : a.length + b.length ≤ 10000000) : addS [rwD o a, rwD o' b] = some (rwD true (a ++ b)) := by
  have : (a.map saD).length + (b.map saD).length ≤ 10000000 := by simpa using h
  simp only [rwD, addS, if_pos this, List.map_append]
theorem dd_strs (n : Nat) (l : List Str) : dds n (l.map .str) = true := by
  induction l with
  | nil => cases n <;> rfl
  | cons a l ih => cases n <;> simpa [dds, dd] using ih
theorem dd_nm (n : Nat) {l : List Str} (h : l.length ≤ 1000) : dd (n + 1) (nmD l) = true := by
  show (decide ((l.map D.str).length ≤ 1000) && dds n (l.map .str)) = true
  rw [dd_strs]; simpa using h
theorem dds_nms (n : Nat) : ∀ {l : List (List Str)}, (∀ x ∈ l, x.length ≤ 1000) → dds (n + 1) (l.map nmD) = true
  | [], _ => rfl
  | a :: l, h => by simp [dds, dd_nm n (h a List.mem_cons_self), dds_nms n (l := l) fun x hx => h x (List.mem_cons_of_mem _ hx)]
theorem dd_st (n : Nat) {l : List (List Str)} (h : l.length ≤ 1000) (k : ∀ x ∈ l, x.length ≤ 1000) : dd (n + 2) (stD l) = true := by
  show (decide ((l.map nmD).length ≤ 1000) && dds (n + 1) (l.map nmD)) = true
  rw [dds_nms n k]; simpa using h
theorem StOk.dd {ns W : List Str} {ls : List (List Str)} (h : StOk ns W ls) (h1 : ns.length ≤ 1000) (h2 : W.length ≤ 1000) (n : Nat) : Z.dd (n + 2) (stD ls) = true :=
  dd_st n (by rw [h.len]; exact h1) fun x hx => by have := nodup_len (h.nd x hx) (h.sub x hx); omega
theorem same_st {ns W : List Str} {ls : List (List Str)} (h : StOk ns W ls) (h1 : ns.length ≤ 1000) (h2 : W.length ≤ 1000) : f_law_same 12 [stD ls, stD ls] = some (.ok (.bl true) []) := p_same 11 _ (h.dd h1 h2 9)
theorem same_st2 {ns W : List Str} {ls : List (List Str)} (h : StOk ns W ls) (h1 : ns.length ≤ 1000) (h2 : W.length ≤ 1000) : f_law_same 12 [.lst false [stD ls, stD ls], .lst false [stD ls, stD ls]] = some (.ok (.bl true) []) :=
  p_same 11 _ (by
    have := h.dd h1 h2 8
    simp [dd, dds, this])
theorem src_n (n : Nat) (hn : n < 1000) (r : Rho) : srcR1 (consM (mT (ret (.int (n : Int)))) (ret [])) r = some (.ok (([], (List.range n).map fun i : Nat => D.int (0 + (i : Int))) : Src) r) := by
  have := srcR1_of (ms := consM (mT (ret (.int (n : Int)))) (ret [])) (os := [.t (.int (n : Int))]) (k := (n : Int)) (r := r) (r1 := r) rfl rfl ⟨by omega, by omega⟩
  rw [Int.toNat_natCast] at this
  exact this
/-! ### a tree, rows, lists -/
structure Wd (ns : List Str) (ties : List (Str × Str)) : Prop where
  t : Tree ns ties
  n : ns.length ≤ 26
theorem Wd.ok {ns : List Str} {ties : List (Str × Str)} (h : Wd ns ties) {W : List Str} (hW : W.length ≤ 1000) : TrOk ns ties W := ⟨by have := h.t.len; have := h.n; omega, by have := h.n; omega, hW⟩
def RwOk (ties : List (Str × Str)) (q : List (Str × Str)) : Prop := (∀ p ∈ q, Say ties p) ∧ q.length ≤ 1000
def dB (ns : List Str) (q : List (Str × Str)) : List (List Str) := doF ns (baF ns) q
section
variable {ns W : List Str} {ties : List (Str × Str)} {ls : List (List Str)} {q : List (Str × Str)}
theorem Wd.b (h : Wd ns ties) : StOk ns ns (baF ns) := baF_ok fun _ h => h
theorem Wd.d (h : Wd ns ties) : StOk ns ns (dB ns q) := h.b.do_
theorem Wd.sub (h : Wd ns ties) {st : List (List Str)} (k : StOk ns ns st) : ∀ names ∈ st, ∀ n ∈ names, n ∈ ns := k.sub
theorem Wd.say (h : Wd ns ties) (hq : ∀ p ∈ q, Say ties p) : ∀ p ∈ q, SayOk ns ties p := fun p hp => h.t.sayOk (hq p hp)
theorem w_bare (h : Wd ns ties) : fbare [trD ns ties] = some (.ok (stD (baF ns)) []) := p_bare (by have := h.n; omega)
theorem w_done (h : Wd ns ties) {st : List (List Str)} (k : StOk ns ns st) (hq : ∀ p ∈ q, Say ties p) : fdone [trD ns ties, stD st, rwD false q] = some (.ok (stD (doF ns st q)) []) := p_done (h.ok (by have := h.n; omega)) k (h.say hq)
theorem w_led (h : Wd ns ties) (hW : W.length ≤ 1000) (k : StOk ns W ls) (hq : ∀ p ∈ q, Say ties p) : fled [trD ns ties, stD ls, rwD false q] = some (.ok (stD (doF ns ls q)) []) := p_led (h.ok hW) k (h.say hq)
theorem w_by (h : Wd ns ties) (hW : W.length ≤ 1000) (k : StOk ns W ls) : fby_stand [trD ns ties, stD ls, stD (dB ns q)] = some (.ok (stD (doF ns ls q)) []) := by
  have := p_by_stand (h.ok hW) k (h.sub (h.d (q := q))) (by rw [(h.d (q := q)).len]; have := h.n; omega)
  rw [dB, led_by h.t.nodup k] at this
  exact this
theorem w_put (h : Wd ns ties) {st : List (List Str)} (k : StOk ns ns st) : fput [trD ns ties, stD st, stD (dB ns q)] = some (.ok (stD (doF ns st q)) []) := by
  have := p_put (h.ok (W := ns) (by have := h.n; omega)) k (h.sub (h.d (q := q))) (by rw [(h.d (q := q)).len]; have := h.n; omega)
  rw [dB, led_by h.t.nodup k] at this
  exact this
theorem w_alike (h : Wd ns ties) {q' : List (Str × Str)} (hq : ∀ p ∈ q, Say ties p) (hq' : ∀ p ∈ q', Say ties p) : fare_alike [trD ns ties, rwD false q, rwD false q'] = some (.ok (.bl (decide (dB ns q = dB ns q'))) []) :=
  p_are_alike (h.ok (by have := h.n; omega)) (h.say hq) (h.say hq')
theorem it_do (ns : List Str) (q : List (Str × Str)) : ∀ (k : Nat) (l : List (List Str)), itF ns q k l = doF ns l (List.replicate k q).flatten
  | 0, l => rfl
  | k + 1, l => by
    show itF ns q k (doF ns l q) = _
    rw [it_do ns q k, List.replicate_succ, List.flatten_cons, doF_app]
theorem it_dB (ns : List Str) (q : List (Str × Str)) (k : Nat) : itF ns q k (baF ns) = dB ns (List.replicate k q).flatten := it_do ns q k _
theorem w_rest (h : Wd ns ties) (hq : ∀ p ∈ q, Say ties p) : ∃ j : Nat, frest_of [trD ns ties, rwD false q] = some (.ok (.tup [.int (j : Int), stD (itF ns q j (baF ns))]) []) ∧ doF ns (itF ns q j (baF ns)) q = itF ns q j (baF ns) := by
  obtain ⟨j, h1, h2, h3, h4, h5⟩ := go_ba (ns := ns) q (many := (ns.length : Int) ^ 2) h.t.pos (Int.pow_nonneg (by omega))
  have := p_rest_of (ns.length * ns.length) (h.ok (by have := h.n; omega)) (h.say hq) (by have := h.n; have := Nat.mul_le_mul h.n h.n; omega) h2
  rw [h1] at this
  refine ⟨j, this, ?_⟩
  rcases h4 with h4 | h4
  · have e : (ns.length : Int) ^ 2 = ((ns.length * ns.length : Nat) : Int) := by rw [Int.pow_succ, Int.pow_succ]; simp
    rw [e] at h4
    omega
  · exact h4
theorem w_far (h : Wd ns ties) (hq : ∀ p ∈ q, Say ties p) (m : Nat) : ffar [trD ns ties, rwD false q, .int (m : Int)] = some (.ok (stD (itF ns q m (baF ns))) []) := by
  obtain ⟨j, h1, h2, h3, h4, h5⟩ := go_ba (ns := ns) q (many := (m : Int)) h.t.pos (by omega)
  have := p_far (ns.length * ns.length) (h.ok (by have := h.n; omega)) (h.say hq) (by have := h.n; have := Nat.mul_le_mul h.n h.n; omega) h2
  rw [go_it q m h.t.pos] at this
  exact this
theorem w_putit (h : Wd ns ties) (a b : Nat) : fput [trD ns ties, stD (itF ns q a (baF ns)), stD (itF ns q b (baF ns))] = some (.ok (stD (itF ns q (a + b) (baF ns))) []) := by
  rw [it_dB ns q b, w_put h h.b.it, itF_add, it_do ns q b]
end
end Z

set_option Elab.async false
set_option linter.all false
set_option maxRecDepth 100000
set_option maxHeartbeats 400000
/-! P21: the law's own sayings. -/
namespace Z
open PySem
/-! ### own names, sayings, rows -/
theorem l_own {ns : List Str} {ties : List (Str × Str)} (h : ns.length ≤ 1000) : f_law_own [trD ns ties] = some (.ok (stD (baF ns)) []) := by
  have key := lcL_map (vs := [1]) (g := nameT 1) (m := tupM (consM (mT (slotE 1)) (ret []))) (r := [some (trD ns ties), none]) (f := fun d => .tup [d]) (ds := ns.map D.str) (fun d hd => by
    obtain ⟨p, _, rfl⟩ := List.mem_map.mp hd
    exact ⟨_, _, by simp; rfl, by simp; rfl, by simp⟩)
  have z : ns.length ≤ 10000000 := by omega
  have e : (ns.map D.str).map (fun d => D.tup [d]) = (ns.map fun n => [n]).map nmD := by simp [nmD]
  rw [e] at key
  simp [-List.map_map, f_law_own, run, m_law_own, key, z, baF]
  simp [-List.map_map, tupleS, stD]
theorem index_nm {ns : List Str} {n : Str} (h : n ∈ ns) : indexS [.lst true (ns.map .str), .str n] = some (.int (plF ns n : Nat)) := by
  simp [indexS, (plF_mem h).1]
theorem joinF_filter : ∀ {b a : List Str}, b.Nodup → joinF a b = a ++ b.filter fun w => decide (w ∉ a)
  | [], a, _ => by simp [joinF]
  | w :: b, a, h => by
    have h' := List.nodup_cons.mp h
    rw [joinF_cons]
    by_cases hw : w ∈ a
    · rw [if_pos hw, joinF_filter h'.2, List.filter_cons_of_neg (by simpa using hw)]
    · rw [if_neg hw, joinF_filter h'.2, List.filter_cons_of_pos (by simpa using hw), List.append_assoc]
      congr 1
      show [w] ++ _ = w :: _
      rw [List.singleton_append]
      congr 1
      refine List.filter_congr fun x hx => ?_
      have : x ≠ w := fun e => h'.1 (e ▸ hx)
      simp [this]
@[simp] theorem inS_nmT (neg : Bool) (w : Str) (l : List Str) : inS neg [.str w, nmD l] = some (.bl (neg ^^ decide (w ∈ l))) := by
  have h1 : pl 50 (.str w) = true := rfl
  show (if (pl 50 (.str w) && pls 50 (l.map .str)) = true then some (D.bl (neg ^^ (l.map D.str).any fun z => PyData.eqv (py z) (py (.str w)))) else none) = _
  simp only [any_str, h1, pls_strs, Bool.and_self, if_true]
theorem add_nm {a b : List Str} (h : a.length + b.length ≤ 10000000) : addS [nmD a, nmD b] = some (nmD (a ++ b)) := by
  have : (a.map D.str).length + (b.map D.str).length ≤ 10000000 := by simpa using h
  simp only [nmD, addS, if_pos this, List.map_append]
theorem l_spoke {ns W : List Str} {ties : List (Str × Str)} {ls : List (List Str)} {p : Str × Str} (h2 : ns.length ≤ 1000) (hW : W.length ≤ 1000) (k : StOk ns W ls) (m1 : p.1 ∈ ns) (m2 : p.2 ∈ ns) :
    f_law_spoke [trD ns ties, stD ls, saD p] = some (.ok (stD (heF ns ls p)) []) := by
  have i1 := (plF_mem m1).2
  have i2 := (plF_mem m2).2
  rw [← k.len] at i1 i2
  have g1 : ls.getD (plF ns p.1) [] = ls[plF ns p.1] := by simp [i1]
  have g2 : ls.getD (plF ns p.2) [] = ls[plF ns p.2] := by simp [i2]
  have x1 := index_nm m1
  have x2 := index_nm m2
  generalize hi : plF ns p.1 = i at *
  generalize hj : plF ns p.2 = j at *
  have nd := k.nd _ (List.getElem_mem i1)
  have z1 := nodup_len (k.nd _ (List.getElem_mem i1)) (k.sub _ (List.getElem_mem i1))
  have z2 := nodup_len (k.nd _ (List.getElem_mem i2)) (k.sub _ (List.getElem_mem i2))
  have e1 : lcL [5] (nameT 5) yesM (opM "list" false indexS (mT (opN true listS (consM (mK (op2 true idxS (slotO true 0) (mK (ret (.int 0))))) (ret [])))) (consM (slotO false 5) (ret []))) [.str p.1, .str p.2] [some (trD ns ties), some (stD ls), some (saD p), none, none, none, none, none, none] =
      some ([.int (i : Int), .int (j : Int)], [some (trD ns ties), some (stD ls), some (saD p), none, none, none, none, none, none]) := by
    simp [lcL, x1, x2]
  have e2 := lcL_filter (vs := [8]) (g := nameT 8) (t := op2 false (inS true) (slotO false 8) (mT (op2 true idxS (slotO true 1) (slotO true 4)))) (m := slotE 8) (r := [some (trD ns ties), some (stD ls), some (saD p), some (.int (i : Int)), some (.int (j : Int)), none, some (.lst true (ls.map nmD)), none, none])
    (p := fun d => match d with | .str w => decide (w ∉ ls[j]) | _ => false) (f := id) (ds := ls[i].map D.str) (fun d hd => by
      obtain ⟨w, _, rfl⟩ := List.mem_map.mp hd
      exact ⟨_, _, by simp; rfl, by simp [i2]; rfl, by simp, fun _ => ⟨_, by simp; rfl, by simp⟩⟩)
  have e3 : ((ls[i].map D.str).filter (fun d => match d with | .str w => decide (w ∉ ls[j]) | _ => false)).map id = (ls[i].filter fun w => decide (w ∉ ls[j])).map .str := by
    rw [List.map_id, List.filter_map]; rfl
  rw [e3] at e2
  have zf : (ls[i].filter fun w => decide (w ∉ ls[j])).length ≤ ls[i].length := List.length_filter_le _ _
  have zi : ls[i].length ≤ 10000000 := by omega
  have e4 := add_nm (a := ls[j]) (b := ls[i].filter fun w => decide (w ∉ ls[j])) (by omega)
  have e5 := joinF_filter (a := ls[j]) nd
  have lst : listS [stD ls] = some (.lst true (ls.map nmD)) := rfl
  have ms : ∀ (x : List Str) (i : Nat), (ls.map nmD).set i (nmD x) = (ls.set i x).map nmD := fun x i => by rw [List.map_set]
  have t1 : tupleS [.lst true ((ls[i].filter fun w => decide (w ∉ ls[j])).map .str)] = some (nmD (ls[i].filter fun w => decide (w ∉ ls[j]))) := rfl
  have t2 : ∀ X : List (List Str), tupleS [.lst true (X.map nmD)] = some (stD X) := fun _ => rfl
  have src : srcD (saD p) = some [.str p.1, .str p.2] := srcD_tup rfl
  have fin : m_law_spoke [some (trD ns ties), some (stD ls), some (saD p), none, none, none, none, none, none] = some (.rt (stD (ls.set j (ls[j] ++ ls[i].filter fun w => decide (w ∉ ls[j])))) [some (trD ns ties), some (stD ls), some (saD p), some (.int (i : Int)), some (.int (j : Int)), none, some (.lst true ((ls.set j (ls[j] ++ ls[i].filter fun w => decide (w ∉ ls[j]))).map nmD)), some (.lst true ((ls[i].filter fun w => decide (w ∉ ls[j])).map .str)), none]) := by
    unfold m_law_spoke
    refine (seq_step (r1 := [some (trD ns ties), some (stD ls), some (saD p), some (.int (i : Int)), some (.int (j : Int)), none, none, none, none]) ?_).trans ?_
    · have kn2 : noOwns [D.int (i : Int), D.int (j : Int)] = true := rfl
      simp [src, e1, tupT, kn2]
    refine (seq_step (r1 := [some (trD ns ties), some (stD ls), some (saD p), some (.int (i : Int)), some (.int (j : Int)), none, some (.lst true (ls.map nmD)), none, none]) ?_).trans ?_
    · simp [lst]
    refine (seq_step (r1 := [some (trD ns ties), some (stD ls), some (saD p), some (.int (i : Int)), some (.int (j : Int)), none, some (.lst true (ls.map nmD)), some (.lst true ((ls[i].filter fun w => decide (w ∉ ls[j])).map .str)), none]) ?_).trans ?_
    · simp at e2
      simp [i1, e2, zi]
    refine (seq_step (r1 := [some (trD ns ties), some (stD ls), some (saD p), some (.int (i : Int)), some (.int (j : Int)), none, some (.lst true ((ls.set j (ls[j] ++ ls[i].filter fun w => decide (w ∉ ls[j]))).map nmD)), some (.lst true ((ls[i].filter fun w => decide (w ∉ ls[j])).map .str)), none]) ?_).trans ?_
    · simp at e4 t1
      simp [-List.map_set, i2, t1, e4, ixN_nat, ms]
    · simp [-List.map_set, t2]
  have := run_rt (N := 9) (np := 3) (nio := 0) (m := m_law_spoke) (ds := [trD ns ties, stD ls, saD p]) fin rfl rfl
  refine this.trans ?_
  simp only [heF, hi, hj, g1, g2, e5]
theorem l_went {ns W : List Str} {ties : List (Str × Str)} (h2 : ns.length ≤ 1000) (hW : W.length ≤ 1000) {row : List (Str × Str)} {ls : List (List Str)} (k : StOk ns W ls) (hr : ∀ q ∈ row, q.1 ∈ ns ∧ q.2 ∈ ns) :
    f_law_went [trD ns ties, stD ls, rwD false row] = some (.ok (stD (doF ns ls row)) []) := by
  have loop : ∀ (row : List (Str × Str)) (ls : List (List Str)) (B p : Option D), StOk ns W ls → (∀ q ∈ row, q.1 ∈ ns ∧ q.2 ∈ ns) → ∃ p', forL (nameT 3) (setS 1 (call0 f_law_spoke (consM (slotO false 0) (consM (slotO false 1) (consM (slotO false 3) (ret [])))))) (row.map saD) [some (trD ns ties), some (stD ls), B, p] = some (.nx [some (trD ns ties), some (stD (doF ns ls row)), B, p']) := by
    intro row
    induction row with
    | nil => exact fun ls B p _ _ => ⟨p, rfl⟩
    | cons q row ih =>
      intro ls B p k hr
      obtain ⟨m1, m2⟩ := hr q List.mem_cons_self
      obtain ⟨p', e⟩ := ih (heF ns ls q) B (some (saD q)) (k.he q) fun x hx => hr x (List.mem_cons_of_mem _ hx)
      refine ⟨p', ?_⟩
      have e1 := l_spoke (ties := ties) h2 hW k m1 m2
      show _ = some (Out.nx [some (trD ns ties), some (stD (doF ns (heF ns ls q) row)), B, p'])
      rw [← e]
      simp [forL, e1]
  obtain ⟨p', key⟩ := loop row ls (some (rwD false row)) none k hr
  simp [f_law_went, run, m_law_went, key]
end Z

set_option Elab.async false
set_option linter.all false
set_option maxRecDepth 100000
set_option maxHeartbeats 400000
/-! P22: lists for tuples. -/
namespace Z
open PySem
mutual
/-- lists for tuples, to any depth -/
def lsD : D → D
  | .tup l => .lst true (lsDs l)
  | .lst _ l => .lst true (lsDs l)
  | .non => .non | .bl b => .bl b | .int i => .int i | .str s => .str s | .scr l => .scr l | .ty n => .ty n | .cls C => .cls C
  | .dct o ks l => .dct o ks l | .ins o C ns l => .ins o C ns l | .xcp C ns l => .xcp C ns l
def lsDs : List D → List D
  | [] => []
  | d :: l => lsD d :: lsDs l
end
theorem lsDs_map (l : List D) : lsDs l = l.map lsD := by
  induction l with
  | nil => rfl
  | cons a l ih => simp [lsDs, ih]
theorem allOwn_ls : ∀ n : Nat, (∀ d, dd n d = true → allOwn (lsD d) = true) ∧ (∀ l, dds n l = true → allOwns (lsDs l) = true) := by
  intro n
  induction n with
  | zero =>
    have h1 : ∀ d, dd 0 d = true → allOwn (lsD d) = true := fun d h => by cases d <;> first | rfl | simp [dd] at h
    refine ⟨h1, fun l => ?_⟩
    induction l with
    | nil => exact fun _ => rfl
    | cons d l ih => exact fun h => by simp [dds] at h; simp [lsDs, h1 d h.1, ih h.2]
  | succ n ih0 =>
    have h1 : ∀ d, dd (n + 1) d = true → allOwn (lsD d) = true := fun d h => by
      cases d with
      | tup l => simp [dd] at h; simp [lsD, ih0.2 l h.2]
      | lst o l => simp [dd] at h; simp [lsD, ih0.2 l h.2]
      | _ => first | rfl | simp [dd] at h
    refine ⟨h1, fun l => ?_⟩
    induction l with
    | nil => exact fun _ => rfl
    | cons d l ih => exact fun h => by simp [dds] at h; simp [lsDs, h1 d h.1, ih h.2]
theorem l_lists : ∀ (n : Nat) (d : D), dd n d = true → f_law_lists (n + 1) [d] = some (.ok (lsD d) [])
  | n, .int i, _ => by simp [f_law_lists, run, m_law_lists, tyD, isT, lsD]
  | n, .bl i, _ => by simp [f_law_lists, run, m_law_lists, tyD, isT, lsD]
  | n, .str i, _ => by simp [f_law_lists, run, m_law_lists, tyD, isT, lsD]
  | 0, .tup l, h => by simp [dd] at h
  | 0, .lst o l, h => by simp [dd] at h
  | n + 1, .tup l, h => by
    have h' : l.length ≤ 1000 ∧ dds n l = true := by simpa [dd] using h
    have no := dds_noOwn h'.2
    have key := lcL_map (vs := [1]) (g := nameT 1) (m := call0 (f_law_lists (n + 1)) (consM (slotO false 1) (ret []))) (r := [some (.tup l), none]) (f := lsD) (ds := l) (fun x hx => by
      have dx := dds_mem h'.2 hx
      have e := l_lists n x dx
      have nx := freeze_noOwn x (dd_noOwn dx)
      have ax := (allOwn_ls n).1 x dx
      exact ⟨_, _, by simp; rfl, by simp [nx, e, ax]; rfl, by simp⟩)
    have z : l.length ≤ 10000000 := by omega
    have src : srcD (.tup l) = some l := srcD_tup no
    show run 2 1 0 (m_law_lists (f_law_lists (n + 1))) [.tup l] = _
    simp [run, m_law_lists, tyD, isT, no, src, key, z, lsD, lsDs_map]
  | n + 1, .lst o l, h => by
    have h' : (o = false ∧ l.length ≤ 1000) ∧ dds n l = true := by simpa [dd] using h
    obtain ⟨⟨rfl, h1⟩, h2⟩ := h'
    have no := dds_noOwn h2
    have key := lcL_map (vs := [1]) (g := nameT 1) (m := call0 (f_law_lists (n + 1)) (consM (slotO false 1) (ret []))) (r := [some (.lst false l), none]) (f := lsD) (ds := l) (fun x hx => by
      have dx := dds_mem h2 hx
      have e := l_lists n x dx
      have nx := freeze_noOwn x (dd_noOwn dx)
      have ax := (allOwn_ls n).1 x dx
      exact ⟨_, _, by simp; rfl, by simp [nx, e, ax]; rfl, by simp⟩)
    have z : l.length ≤ 10000000 := by omega
    have src : srcD (.lst false l) = some l := srcD_lst no
    show run 2 1 0 (m_law_lists (f_law_lists (n + 1))) [.lst false l] = _
    simp [run, m_law_lists, tyD, isT, no, src, key, z, lsD, lsDs_map]
  | _, .non, h => by simp [dd] at h
  | _, .dct _ _ _, h => by simp [dd] at h
  | _, .ins _ _ _ _, h => by simp [dd] at h
  | _, .scr _, h => by simp [dd] at h
  | _, .ty _, h => by simp [dd] at h
  | _, .cls _, h => by simp [dd] at h
/-! names, stands, trees as lists -/
def nlD (l : List Str) : D := .lst false (l.map .str)
def slD (ls : List (List Str)) : D := .lst false (ls.map nlD)
def plD (p : Str × Str) : D := .lst false [.str p.1, .str p.2]
def tlD (ns : List Str) (ties : List (Str × Str)) : D := .lst false [nlD ns, .lst false (ties.map plD)]
theorem fz_ls_nm (l : List Str) : freeze (lsD (nmD l)) = nlD l := by
  show D.lst false (freezes (lsDs (l.map .str))) = _
  have : freezes (lsDs (l.map D.str)) = l.map .str := by
    induction l with
    | nil => rfl
    | cons a l ih => simp [lsDs, lsD, ih]
  rw [this]; rfl
theorem fz_ls_st (ls : List (List Str)) : freeze (lsD (stD ls)) = slD ls := by
  show D.lst false (freezes (lsDs (ls.map nmD))) = _
  have : freezes (lsDs (ls.map nmD)) = ls.map nlD := by
    induction ls with
    | nil => rfl
    | cons a l ih => simp [lsDs, fz_ls_nm, ih]
  rw [this]; rfl
theorem fz_ls_tr (ns : List Str) (ties : List (Str × Str)) : freeze (lsD (trD ns ties)) = tlD ns ties := by
  show D.lst false [freeze (lsD (nmD ns)), .lst false (freezes (lsDs (ties.map saD)))] = _
  have : freezes (lsDs (ties.map saD)) = ties.map plD := by
    induction ties with
    | nil => rfl
    | cons a l ih =>
      simp only [List.map_cons, lsDs, freezes, ih]
      rfl
  rw [this, fz_ls_nm]; rfl
/-! ### a sequence of texts, of such, a tree: tuples or lists -/
structure SqR (a : D) (l : List Str) : Prop where
  no : noOwn a = true
  src : srcD a = some (l.map .str)
  lst : listS [a] = some (.lst true (l.map .str))
theorem SqR.t (l : List Str) : SqR (nmD l) l := ⟨by simp, by simp, rfl⟩
theorem SqR.l (l : List Str) : SqR (nlD l) l := ⟨by simp [nlD], by simp [nlD, srcD_lst], rfl⟩
inductive All2 : List D → List (List Str) → Prop
  | nil : All2 [] []
  | cons {a l as ls} : SqR a l → All2 as ls → All2 (a :: as) (l :: ls)
theorem All2.map {f : List Str → D} (h : ∀ l, SqR (f l) l) : ∀ ls : List (List Str), All2 (ls.map f) ls
  | [] => .nil
  | l :: ls => .cons (h l) (All2.map h ls)
theorem All2.no : ∀ {as : List D} {ls : List (List Str)}, All2 as ls → noOwns as = true
  | _, _, .nil => rfl
  | _, _, .cons h t => by simp [h.no, t.no]
theorem All2.len : ∀ {as : List D} {ls : List (List Str)}, All2 as ls → as.length = ls.length
  | _, _, .nil => rfl
  | _, _, .cons h t => by simp [t.len]
theorem All2.get : ∀ {as : List D} {ls : List (List Str)}, All2 as ls → ∀ {i : Nat} (h : i < ls.length), ∃ a, as[i]? = some a ∧ SqR a ls[i]
  | _, _, .nil, i, h => absurd h (Nat.not_lt_zero _)
  | _, _, .cons (a := a) h t, 0, _ => ⟨a, rfl, h⟩
  | _, _, .cons h t, i + 1, hi => by
    obtain ⟨a, e, s⟩ := t.get (i := i) (by simpa using hi)
    exact ⟨a, by simpa using e, by simpa using s⟩
/-- lists of texts, one behind the other -/
def StR (S : D) (st : List (List Str)) : Prop := ∃ as, (S = .tup as ∨ S = .lst false as) ∧ All2 as st
theorem StR.t (st : List (List Str)) : StR (stD st) st := ⟨_, .inl rfl, All2.map SqR.t st⟩
theorem StR.l (st : List (List Str)) : StR (slD st) st := ⟨_, .inr rfl, All2.map SqR.l st⟩
theorem StR.no {S : D} {st : List (List Str)} (h : StR S st) : noOwn S = true := by
  obtain ⟨as, rfl | rfl, h⟩ := h <;> simp [h.no]
theorem StR.src {S : D} {st : List (List Str)} (h : StR S st) : ∃ as, srcD S = some as ∧ All2 as st := by
  obtain ⟨as, rfl | rfl, h⟩ := h
  · exact ⟨as, srcD_tup h.no, h⟩
  · exact ⟨as, srcD_lst h.no, h⟩
theorem StR.idx {S : D} {st : List (List Str)} (h : StR S st) {i : Nat} (hi : i < st.length) : ∃ a, idxS [S, .int (i : Int)] = some a ∧ SqR a st[i] := by
  obtain ⟨as, rfl | rfl, h⟩ := h
  · obtain ⟨a, e, s⟩ := h.get hi
    exact ⟨a, by rw [idx_tup]; exact e, s⟩
  · obtain ⟨a, e, s⟩ := h.get hi
    exact ⟨a, by rw [idx_lst]; exact e, s⟩
/-- a tree's names -/
structure TnR (T : D) (ns : List Str) : Prop where
  no : noOwn T = true
  nm : ∃ A, idxS [T, .int 0] = some A ∧ SqR A ns
theorem TnR.t (ns : List Str) (ties : List (Str × Str)) : TnR (trD ns ties) ns := ⟨by simp, _, rfl, SqR.t ns⟩
theorem noOwns_pls (l : List (Str × Str)) : noOwns (l.map plD) = true := by
  induction l with
  | nil => rfl
  | cons a l ih => simp [ih, plD]
theorem TnR.l (ns : List Str) (ties : List (Str × Str)) : TnR (tlD ns ties) ns := ⟨by simp [tlD, (SqR.l ns).no, noOwns_pls], _, rfl, SqR.l ns⟩
theorem freeze_no {d : D} (h : noOwn d = true) : freeze d = d := freeze_noOwn d h
theorem r_place_of {T : D} {ns : List Str} {n : Str} (hT : TnR T ns) (h : n ∈ ns) : fplace_of [T, .str n] = some (.ok (.int (plF ns n : Nat)) []) := by
  obtain ⟨A, e, s⟩ := hT.nm
  have k1 := kn_of hT.no
  have k2 := kn_of s.no
  have k3 := knT_of k2
  simp [fplace_of, run, mplace_of, k1, e, k3, s.lst, k2, index_nm h]
theorem r_joined {X : D} {a b : List Str} (hX : SqR X b) (h : a.length + b.length < 10000000) : fjoined [nmD a, X] = some (.ok (nmD (joinF a b)) []) := by
  obtain ⟨p', key⟩ := join_loop (A := some (nmD a)) (B := some X) b a none h
  have n1 := hX.no
  simp [fjoined, run, mjoined, n1, hX.src, key]
  simp [tupleS, nmD]
section
variable {T L : D} {ns W : List Str} {ls : List (List Str)}
theorem r_by_in (hT : TnR T ns) (hL : StR L ls) (hW : W.length ≤ 1000) (h : StOk ns W ls) {C Dd E : Option D} : ∀ (names here : List Str) (p : Option D), (∀ n ∈ names, n ∈ ns) → here.Nodup → (∀ x ∈ here, x ∈ W) →
    ∃ p', forL (nameT 6) (setS 5 (call0 fjoined (consM (slotO false 5) (consM (mT (op2 true idxS (slotO true 1) (mK (call0 fplace_of (consM (slotO false 0) (consM (slotO false 6) (ret []))))))) (ret []))))) (names.map .str)
      [some T, some L, C, Dd, E, some (nmD here), p] = some (.nx [some T, some L, C, Dd, E, some (nmD (byNF ns ls names here)), p'])
  | [], here, p, _, _, _ => ⟨p, rfl⟩
  | n :: names, here, p, hn, hd, hs => by
    have m := hn n List.mem_cons_self
    have i1 := (plF_mem m).2
    rw [← h.len] at i1
    have g1 : ls.getD (plF ns n) [] = ls[plF ns n] := by simp [i1]
    obtain ⟨p', ih⟩ := r_by_in hT hL hW h (C := C) (Dd := Dd) (E := E) names (joinF here (ls.getD (plF ns n) [])) (some (.str n)) (fun x hx => hn x (List.mem_cons_of_mem _ hx)) (joinF_nodup hd) (fun x hx => by
      rcases mem_joinF.mp hx with hx | hx
      · exact hs x hx
      · exact (h.getD _).2 x hx)
    refine ⟨p', ?_⟩
    show _ = some (Out.nx [some T, some L, C, Dd, E, some (nmD (byNF ns ls names (joinF here (ls.getD (plF ns n) [])))), p'])
    rw [← ih, g1]
    have z1 := nodup_len hd hs
    have z2 := h.small hW _ (List.getElem_mem i1)
    obtain ⟨a, ea, sa⟩ := hL.idx i1
    have e1 := r_place_of hT m
    have e2 := r_joined (a := here) sa (by omega)
    have f1 := freeze_no hT.no
    have f2 := freeze_no sa.no
    have n1 := hT.no
    have n2 := sa.no
    have k2 := kn_of hL.no
    simp [forL, f1, e1, k2, ea, f2, e2]
theorem r_by_out (hT : TnR T ns) (hL : StR L ls) (hW : W.length ≤ 1000) (h : StOk ns W ls) {C : Option D} : ∀ (as : List D) (st acc : List (List Str)) (p5 p6 p7 : Option D), All2 as st → (∀ names ∈ st, ∀ n ∈ names, n ∈ ns) → acc.length + st.length ≤ 1000000 →
    ∃ q5 q6 q7, forL (nameT 4) (seqS (setS 5 (tupM (ret [])))     (seqS (forS (srcSeq (slotE 4)) (nameT 6) (setS 5 (call0 fjoined (consM (slotO false 5) (consM (mT (op2 true idxS (slotO true 1) (mK (call0 fplace_of (consM (slotO false 0) (consM (slotO false 6) (ret []))))))) (ret []))))))     (exS (appM 3 (consM (mT (slotE 5)) (ret [])))))) as [some T, some L, C, some (.lst true (acc.map nmD)), p5, p6, p7] = some (.nx [some T, some L, C, some (.lst true ((acc ++ byF ns ls st).map nmD)), q5, q6, q7])
  | _, [], acc, p5, p6, p7, .nil, _, _ => ⟨p5, p6, p7, by simp [byF]⟩
  | a :: as, names :: st, acc, p5, p6, p7, .cons sa t, hn, hz => by
    obtain ⟨p', e⟩ := r_by_in hT hL hW h (C := C) (Dd := some (.lst true (acc.map nmD))) (E := some a) names [] p7 (hn names List.mem_cons_self) (by simp) (by simp)
    obtain ⟨q5, q6, q7, ih⟩ := r_by_out hT hL hW h (C := C) as st (acc ++ [byNF ns ls names []]) (some a) (some (nmD (byNF ns ls names []))) p' t (fun x hx => hn x (List.mem_cons_of_mem _ hx)) (by simp at hz ⊢; omega)
    refine ⟨q5, q6, q7, ?_⟩
    have z : acc.length < 10000000 := by simp at hz; omega
    have e1 : acc ++ byF ns ls (names :: st) = (acc ++ [byNF ns ls names []]) ++ byF ns ls st := by simp [byF]
    rw [e1, ← ih]
    have e2 : (nmD [] : D) = .tup [] := rfl
    rw [e2] at e
    have n2 := sa.no
    simp [forL, n2, sa.src, e, z]
theorem r_by_stand (hT : TnR T ns) {S : D} {st : List (List Str)} (hL : StR L ls) (hS : StR S st) (hW : W.length ≤ 1000) (h : StOk ns W ls) (hs : ∀ names ∈ st, ∀ n ∈ names, n ∈ ns) (hz : st.length ≤ 1000) : fby_stand [T, L, S] = some (.ok (stD (byF ns ls st)) []) := by
  obtain ⟨as, src, al⟩ := hS.src
  obtain ⟨q5, q6, q7, key⟩ := r_by_out hT hL hW h (C := some S) as st [] none none none al hs (by simp; omega)
  rw [List.nil_append, List.map_nil] at key
  have n1 := hS.no
  simp [fby_stand, run, mby_stand, n1, src, key]
  simp [tupleS, stD]
theorem r_put (hT : TnR T ns) {S : D} {st : List (List Str)} (hL : StR L ls) (hS : StR S st) (hW : W.length ≤ 1000) (h : StOk ns W ls) (hs : ∀ names ∈ st, ∀ n ∈ names, n ∈ ns) (hz : st.length ≤ 1000) : fput [T, L, S] = some (.ok (stD (byF ns ls st)) []) := by
  have e := r_by_stand hT hL hS hW h hs hz
  have f1 := freeze_no hT.no
  have f2 := freeze_no hL.no
  have f3 := freeze_no hS.no
  simp [fput, run, mput, f1, f2, f3, e]
end
end Z

set_option Elab.async false
set_option linter.all false
set_option maxRecDepth 100000
set_option maxHeartbeats 1000000
/-! P23: the law's own by_stand; any stand drawn. -/
namespace Z
open PySem
theorem add_strs {a b : List Str} (o o' : Bool) (h : a.length + b.length ≤ 10000000) : addS [.lst o (a.map .str), .lst o' (b.map .str)] = some (.lst true ((a ++ b).map .str)) := by
  have : (a.map D.str).length + (b.map D.str).length ≤ 10000000 := by simpa using h
  simp only [addS, if_pos this, List.map_append]
def byB : MS := setS 5 (op2 true addS (slotO true 5) (mK (lcM [7] (srcSeq (op2 true idxS (slotO true 1) (mK (opM "list" false indexS (mT (opN true listS (consM (mK (op2 true idxS (slotO true 0) (mK (ret (.int 0))))) (ret [])))) (consM (slotO false 6) (ret [])))))) (nameT 7) (op2 false (inS true) (slotO false 7) (slotO false 5)) (slotE 7))))
section
variable {ns W : List Str} {ties : List (Str × Str)} {ls : List (List Str)}
theorem lby_in (hW : W.length ≤ 1000) (h : StOk ns W ls) {C Dd E : Option D} : ∀ (names here : List Str) (p : Option D), (∀ n ∈ names, n ∈ ns) → here.Nodup → (∀ x ∈ here, x ∈ W) →
    ∃ p', forL (nameT 6) byB (names.map .str) [some (trD ns ties), some (stD ls), C, Dd, E, some (.lst true (here.map .str)), p, none] = some (.nx [some (trD ns ties), some (stD ls), C, Dd, E, some (.lst true ((byNF ns ls names here).map .str)), p', none])
  | [], here, p, _, _, _ => ⟨p, rfl⟩
  | n :: names, here, p, hn, hd, hs => by
    have m := hn n List.mem_cons_self
    have i1 := (plF_mem m).2
    rw [← h.len] at i1
    have g1 : ls.getD (plF ns n) [] = ls[plF ns n] := by simp [i1]
    obtain ⟨p', ih⟩ := lby_in hW h (C := C) (Dd := Dd) (E := E) names (joinF here (ls.getD (plF ns n) [])) (some (.str n)) (fun x hx => hn x (List.mem_cons_of_mem _ hx)) (joinF_nodup hd) (fun x hx => by
      rcases mem_joinF.mp hx with hx | hx
      · exact hs x hx
      · exact (h.getD _).2 x hx)
    refine ⟨p', ?_⟩
    show _ = some (Out.nx [some (trD ns ties), some (stD ls), C, Dd, E, some (.lst true ((byNF ns ls names (joinF here (ls.getD (plF ns n) []))).map .str)), p', none])
    rw [← ih, g1]
    have z1 := nodup_len hd hs
    have z2 := h.small hW _ (List.getElem_mem i1)
    have x1 := index_nm m
    generalize hi : plF ns n = i at *
    have e2 := lcL_filter (vs := [7]) (g := nameT 7) (t := op2 false (inS true) (slotO false 7) (slotO false 5)) (m := slotE 7) (r := [some (trD ns ties), some (stD ls), C, Dd, E, some (.lst true (here.map .str)), some (.str n), none])
      (p := fun d => match d with | .str w => decide (w ∉ here) | _ => false) (f := id) (ds := ls[i].map D.str) (fun d hd => by
        obtain ⟨w, _, rfl⟩ := List.mem_map.mp hd
        exact ⟨_, _, by simp; rfl, by simp; rfl, by simp, fun _ => ⟨_, by simp; rfl, by simp⟩⟩)
    have e3 : ((ls[i].map D.str).filter (fun d => match d with | .str w => decide (w ∉ here) | _ => false)).map id = (ls[i].filter fun w => decide (w ∉ here)).map .str := by
      rw [List.map_id, List.filter_map]; rfl
    rw [e3] at e2
    have zf : (ls[i].filter fun w => decide (w ∉ here)).length ≤ ls[i].length := List.length_filter_le _ _
    have zi : ls[i].length ≤ 10000000 := by omega
    have e4 := add_strs true true (a := here) (b := ls[i].filter fun w => decide (w ∉ here)) (by omega)
    have e5 := joinF_filter (a := here) (h.nd _ (List.getElem_mem i1))
    have eb : byB [some (trD ns ties), some (stD ls), C, Dd, E, some (.lst true (here.map .str)), some (.str n), none] = some (.nx [some (trD ns ties), some (stD ls), C, Dd, E, some (.lst true ((joinF here ls[i]).map .str)), some (.str n), none]) := by
      rw [e5]
      unfold byB
      simp at e2
      simp [-List.map_append] at e4
      simp [-List.map_append, x1, i1, e2, zi, e4]
    simp only [List.map_cons, forL]
    rw [show nameT 6 (.str n) [some (trD ns ties), some (stD ls), C, Dd, E, some (.lst true (here.map .str)), p, none] = some [some (trD ns ties), some (stD ls), C, Dd, E, some (.lst true (here.map .str)), some (.str n), none] by simp]
    simp only [eb]
theorem lby_out (hW : W.length ≤ 1000) (h : StOk ns W ls) {C : Option D} : ∀ (st acc : List (List Str)) (p4 p5 p6 : Option D), (∀ names ∈ st, ∀ n ∈ names, n ∈ ns) → acc.length + st.length ≤ 1000000 →
    ∃ q4 q5 q6, forL (nameT 4) (seqS (setS 5 (lstM (ret []))) (seqS (forS (srcSeq (slotE 4)) (nameT 6) byB) (exS (appM 3 (consM (mT (opN true tupleS (consM (slotO true 5) (ret [])))) (ret [])))))) (st.map nmD) [some (trD ns ties), some (stD ls), C, some (.lst true (acc.map nmD)), p4, p5, p6, none] =
      some (.nx [some (trD ns ties), some (stD ls), C, some (.lst true ((acc ++ byF ns ls st).map nmD)), q4, q5, q6, none])
  | [], acc, p4, p5, p6, _, _ => ⟨p4, p5, p6, by simp [byF]⟩
  | names :: st, acc, p4, p5, p6, hn, hz => by
    obtain ⟨p', e⟩ := lby_in (ties := ties) hW h (C := C) (Dd := some (.lst true (acc.map nmD))) (E := some (nmD names)) names [] p6 (hn names List.mem_cons_self) (by simp) (by simp)
    obtain ⟨q4, q5, q6, ih⟩ := lby_out hW h (C := C) st (acc ++ [byNF ns ls names []]) (some (nmD names)) (some (.lst true ((byNF ns ls names []).map .str))) p' (fun x hx => hn x (List.mem_cons_of_mem _ hx)) (by simp at hz ⊢; omega)
    refine ⟨q4, q5, q6, ?_⟩
    have z : acc.length < 10000000 := by simp at hz; omega
    have e1 : acc ++ byF ns ls (names :: st) = (acc ++ [byNF ns ls names []]) ++ byF ns ls st := by simp [byF]
    rw [e1, ← ih]
    rw [List.map_nil] at e
    have t1 : tupleS [.lst true ((byNF ns ls names []).map .str)] = some (nmD (byNF ns ls names [])) := rfl
    simp [forL, e, z, t1]
theorem l_by (hW : W.length ≤ 1000) (h : StOk ns W ls) {st : List (List Str)} (hs : ∀ names ∈ st, ∀ n ∈ names, n ∈ ns) (hz : st.length ≤ 1000) : f_law_by [trD ns ties, stD ls, stD st] = some (.ok (stD (byF ns ls st)) []) := by
  obtain ⟨q4, q5, q6, key⟩ := lby_out (ties := ties) hW h (C := some (stD st)) st [] none none none hs (by simp; omega)
  rw [List.nil_append, List.map_nil] at key
  unfold byB at key
  have t1 : tupleS [.lst true ((byF ns ls st).map nmD)] = some (stD (byF ns ls st)) := rfl
  simp [f_law_by, run, m_law_by, key, t1]
end
/-! ### any stand -/
theorem neS_str (a b : Str) : neS [.str a, .str b] = some (.bl (!(a == b))) := rfl
def asB : MS := (seqS (setS 4 (call1 f_law_strewn (consM (slotO false 0) (consM (mT (lcM [5] (srcSeq (op2 true idxS (slotO true 1) (mK (ret (.int 0))))) (nameT 5) (op2 false neS (slotO false 5) (slotO false 3)) (slotE 5))) (ret [])))))
    (exS (appM 2 (consM (mT (op2 true addS (mK (tupM (consM (mT (slotE 3)) (ret [])))) (mK (opN true tupleS (consM (mK (op3 true slcZ (slotO true 4) noB (intB (mT (call1 (f_law_take 12) (consM (slotO false 0) (consM (mT (op2 true addS (mK (opN false lenS (consM (slotO false 4) (ret [])))) (mK (ret (.int 1))))) (ret [])))))))) (ret [])))))) (ret [])))))
theorem as_turn {ns : List Str} {ties : List (Str × Str)} {n : Int} {box : D} {w : Str} {acc : List (List Str)} (h : BoxOk n box) (hn : n ≤ 90000000) (hnd : ns.Nodup) (hz : ns.length ≤ 26) (hw : w ∈ ns) (ha : acc.length ≤ 1000) (q : Option D) :
    ∃ (f : List Str) (box' q' : D), f.Nodup ∧ (∀ x ∈ f, x ∈ ns) ∧ BoxOk (n + 27) box' ∧
      asB [some box, some (trD ns ties), some (.lst true (acc.map nmD)), some (.str w), q, none] = some (.nx [some box', some (trD ns ties), some (.lst true ((acc ++ [f]).map nmD)), some (.str w), some q', none]) := by
  obtain ⟨ot, hot⟩ : ∃ ot, ot = ns.filter fun x => !(x == w) := ⟨_, rfl⟩
  have lo : ot.length ≤ ns.length := by rw [hot]; exact List.length_filter_le _ _
  obtain ⟨fo, b1, e1, pm, h1⟩ := p_strewn (X := .lst false (ot.map .str)) (l := ot.map .str) h (by omega) rfl (by simp) (by simp; omega) (pls_strs 49 ot)
  obtain ⟨g, rfl, pg⟩ := perm_strs pm
  have gl := pg.length_eq
  obtain ⟨v, b2, e2, v0, v1, h2⟩ := p_take (size := (g.length : Int) + 1) 11 h1 (by simp; omega) (by omega) (by omega)
  obtain ⟨k, rfl⟩ : ∃ k : Nat, v = (k : Int) := ⟨v.toNat, by omega⟩
  have gsub : ∀ x ∈ g, x ∈ ns ∧ x ≠ w := fun x hx => by
    have := pg.mem_iff.mp hx
    rw [hot] at this
    simpa using List.mem_filter.mp this
  have gnd : g.Nodup := pg.nodup_iff.mpr (by rw [hot]; exact hnd.sublist List.filter_sublist)
  have tl : (g.take k).length ≤ 26 := by have := List.length_take_le' k g; omega
  refine ⟨w :: g.take k, b2, .lst true (g.map .str), ?_, ?_, h2.mono (by simp; omega), ?_⟩
  · exact List.nodup_cons.mpr ⟨fun hm => (gsub w ((List.take_sublist _ _).subset hm)).2 rfl, gnd.sublist (List.take_sublist _ _)⟩
  · intro x hx
    rcases List.mem_cons.mp hx with rfl | hx
    · exact hw
    · exact (gsub x ((List.take_sublist _ _).subset hx)).1
  have ec := lcL_filter (vs := [5]) (g := nameT 5) (t := op2 false neS (slotO false 5) (slotO false 3)) (m := slotE 5) (r := [some box, some (trD ns ties), some (.lst true (acc.map nmD)), some (.str w), q, none])
    (p := fun d => match d with | .str x => !(x == w) | _ => false) (f := id) (ds := ns.map D.str) (fun d hd => by
      obtain ⟨x, _, rfl⟩ := List.mem_map.mp hd
      have e0 := neS_str x w
      exact ⟨_, _, by simp; rfl, by simp [e0]; rfl, by simp, fun _ => ⟨_, by simp; rfl, by simp⟩⟩)
  have e3 : ((ns.map D.str).filter (fun d => match d with | .str x => !(x == w) | _ => false)).map id = ot.map .str := by
    rw [hot, List.map_id, List.filter_map]; rfl
  rw [e3] at ec
  have o1 := h1.own
  have o2 := h2.own
  have a1 : allOwns (g.map .str) = true := allOwn_nm g
  have fz : freezes (ot.map D.str) = ot.map .str := freezes_noOwn _ (noOwns_str ot)
  have c1 : slcZ [.lst true (g.map .str), .non, .int (k : Int)] = some (.lst true ((g.take k).map .str)) := by
    show some (D.lst true (cutD _ none (some (k : Int)))) = _
    rw [cut_lowD, ← List.map_take]
  have t1 : tupleS [.lst true ((g.take k).map .str)] = some (nmD (g.take k)) := rfl
  have a2 : addS [.tup [.str w], nmD (g.take k)] = some (nmD (w :: g.take k)) := add_nm (a := [w]) (b := g.take k) (by simp only [List.length_singleton]; omega)
  have nz : ns.length ≤ 10000000 := by omega
  have az : acc.length < 10000000 := by omega
  have l1 : lenS [.lst true (g.map .str)] = some (.int (g.length : Nat)) := by simp [lenS]
  have d1 : (ns.map D.str).length ≤ 10000000 := by simp; omega
  simp [-List.map_take, -List.map_append, asB, ec, nz, e1, fz, o1, o2, a1, e2, c1, t1, a2, az, l1]
  rw [List.map_append]; rfl
theorem p_any_stand {ns : List Str} {ties : List (Str × Str)} {n : Int} {box : D} (h : BoxOk n box) (hn : n ≤ 80000000) (hnd : ns.Nodup) (hz : ns.length ≤ 26) :
    ∃ (ls : List (List Str)) (box' : D), f_law_any_stand [box, trD ns ties] = some (.ok (stD ls) [box']) ∧ StOk ns ns ls ∧ BoxOk (n + 1000) box' := by
  obtain ⟨r', f, ls, b2, q3, q4, er, l3, nd3, sub3, h3⟩ := forL_ix (g := nameT 3) (b := asB) (fun i r => ∃ (ls : List (List Str)) (b : D) (q3 q4 : Option D), r = [some b, some (trD ns ties), some (.lst true (ls.map nmD)), q3, q4, none] ∧ ls.length = i ∧ (∀ l ∈ ls, l.Nodup) ∧ (∀ l ∈ ls, ∀ x ∈ l, x ∈ ns) ∧ BoxOk (n + 27 * (i : Int)) b)
    (ds := ns.map .str) (i := 0) (r := [some box, some (trD ns ties), some (.lst true []), none, none, none]) ⟨[], box, none, none, rfl, rfl, by simp, by simp, h.mono (by omega)⟩ (fun j d r hj ⟨ls, b, q3, q4, er, l3, nd3, sub3, h3⟩ => by
      have jl : j < ns.length := by
        have := (List.getElem?_eq_some_iff.mp hj).1
        simpa using this
      obtain ⟨w, hw, rfl⟩ := List.mem_map.mp (List.mem_of_getElem? hj)
      subst er
      obtain ⟨f, b', q', fn, fs, h4, e4⟩ := as_turn (ties := ties) (acc := ls) h3 (by omega) hnd hz hw (by omega) q4
      refine ⟨_, _, by simp <;> rfl, e4, ls ++ [f], b', _, _, rfl, by simp; omega, fun l hl => ?_, fun l hl x hx => ?_, h4.mono (by omega)⟩
      · rcases List.mem_append.mp hl with hl | hl
        · exact nd3 l hl
        · simp at hl; subst hl; exact fn
      · rcases List.mem_append.mp hl with hl | hl
        · exact sub3 l hl x hx
        · simp at hl; subst hl; exact fs x hx)
  subst er
  have lz : ls.length = ns.length := by simpa using l3
  refine ⟨ls, b2, ?_, ⟨lz, nd3, sub3⟩, h3.mono (by simp; omega)⟩
  have t1 : tupleS [.lst true (ls.map nmD)] = some (stD ls) := rfl
  have key : m_law_any_stand [some box, some (trD ns ties), none, none, none, none] = some (.rt (stD ls) [some b2, some (trD ns ties), some (.lst true (ls.map nmD)), q3, q4, none]) := by
    unfold asB at f
    simp [m_law_any_stand, f, t1]
  exact run_rt (N := 6) (np := 2) (nio := 1) (m := m_law_any_stand) key rfl rfl
end Z

set_option Elab.async false
set_option linter.all false
set_option maxRecDepth 100000
set_option maxHeartbeats 1000000
/-! P24: what is told is short; k10's turns. -/
namespace Z
open PySem
/-! ### what repr tells is short -/
structure Rp (n : Nat) (d : D) (b : Nat) : Prop where
  pl : pl n d = true
  sh : (py d).showable = true
  lf : (py d).leavesShort 8 = true
  bk : (py d).bulk ≤ b
structure Rps (n : Nat) (l : List D) (b : Nat) : Prop where
  pl : pls n l = true
  sh : PyData.showableAll (pys l) = true
  lf : PyData.leavesShortAll 8 (pys l) = true
  bk : PyData.bulkAll (pys l) ≤ b
theorem Rp.str {n : Nat} {s : Str} (h : ∀ c ∈ s.cps.toList, c < 16 ^ 8) : Rp n (.str s) s.length := ⟨by cases n <;> rfl, rfl, by simp only [py, PyData.leavesShort, List.all_eq_true, decide_eq_true_eq]; exact h, Nat.le_refl _⟩
theorem Rps.nil {n : Nat} : Rps n [] 0 := ⟨by cases n <;> rfl, rfl, rfl, Nat.le_refl _⟩
theorem Rps.cons {n : Nat} {d : D} {l : List D} {a b : Nat} (h : Rp n d a) (k : Rps n l b) : Rps n (d :: l) (a + 1 + b) :=
  ⟨by simp [pls, h.pl, k.pl], by simp [pys, PyData.showableAll, h.sh, k.sh], by simp [pys, PyData.leavesShortAll, h.lf, k.lf], by
    have := h.bk; have := k.bk; simp only [pys, PyData.bulkAll]; omega⟩
theorem Rp.mono {n : Nat} {d : D} {a b : Nat} (h : Rp n d a) (k : a ≤ b) : Rp n d b := ⟨h.pl, h.sh, h.lf, Nat.le_trans h.bk k⟩
theorem Rp.tup {n : Nat} {l : List D} {b : Nat} (h : Rps n l b) : Rp (n + 1) (.tup l) b := ⟨by simpa [Z.pl] using h.pl, by simpa [py, PyData.showable] using h.sh, by simpa [py, PyData.leavesShort] using h.lf, by simpa [py, PyData.bulk] using h.bk⟩
theorem Rp.lst {n : Nat} {o : Bool} {l : List D} {b : Nat} (h : Rps n l b) : Rp (n + 1) (.lst o l) b := ⟨by simpa [Z.pl] using h.pl, by simpa [py, PyData.showable] using h.sh, by simpa [py, PyData.leavesShort] using h.lf, by simpa [py, PyData.bulk] using h.bk⟩
theorem Rps.map {α : Type} {n a : Nat} {f : α → D} : ∀ {l : List α}, (∀ x ∈ l, Rp n (f x) a) → Rps n (l.map f) (l.length * (a + 1))
  | [], _ => by rw [List.length_nil, Nat.zero_mul]; exact Rps.nil
  | x :: l, h => by
    have := Rps.cons (h x List.mem_cons_self) (Rps.map (l := l) fun y hy => h y (List.mem_cons_of_mem _ hy))
    rw [List.map_cons]
    refine ⟨this.pl, this.sh, this.lf, Nat.le_trans this.bk ?_⟩
    rw [List.length_cons, Nat.succ_mul]
    omega
theorem Rp.shw {d : D} {b : Nat} (h : Rp 50 d b) (k : b ≤ 900000) : shw d = true := by
  have := PyData.shown_le_bulk 8 (by omega) (py d) h.lf
  have := h.bk
  have z : (py d).shown.length ≤ 10000000 := by omega
  simp only [Z.shw, h.pl, h.sh, z, Bool.and_self, decide_true]
theorem repr_l {o : Bool} {l : List D} {b : Nat} (h : Rps 49 l b) (k : b ≤ 900000) : reprS [.lst o l] = some (.str (py (.lst true l)).shown) := by
  have := (Rp.lst (o := o) h).shw k
  simp only [reprS, this, if_true]
  rfl
def okW (w : Str) : Prop := w.length ≤ 7 ∧ ∀ c ∈ w.cps.toList, c < 16 ^ 8
theorem okW_nm {w : Str} (h : isNm w) : okW w := ⟨by have := h.2.1; omega, fun c hc => by have := (h.2.2 c hc).2; omega⟩
theorem okW_sp : ∀ w ∈ spW, okW w := by
  intro w hw
  have key : ∀ w ∈ spW, (decide (w.length ≤ 7) && w.cps.toList.all fun c => decide (c < 16 ^ 8)) = true := by decide +kernel
  have := key w hw
  simp only [Bool.and_eq_true, decide_eq_true_eq, List.all_eq_true] at this
  exact this
theorem okW_both {ns : List Str} (h : ∀ s ∈ ns, isNm s) : ∀ w ∈ spW ++ ns, okW w := fun w hw => (List.mem_append.mp hw).elim (okW_sp w) fun hw => okW_nm (h w hw)
theorem Rp.w {n : Nat} {w : Str} (h : okW w) : Rp n (.str w) 7 := (Rp.str h.2).mono h.1
theorem Rp.nm {n k : Nat} {l : List Str} (h : ∀ w ∈ l, okW w) (hk : l.length ≤ k) : Rp (n + 1) (nmD l) (k * 8) :=
  (Rp.tup (Rps.map fun w hw => Rp.w (h w hw))).mono (Nat.mul_le_mul_right _ hk)
theorem Rp.st {n k j : Nat} {st : List (List Str)} (h : ∀ l ∈ st, (∀ w ∈ l, okW w) ∧ l.length ≤ k) (hj : st.length ≤ j) : Rp (n + 2) (stD st) (j * (k * 8 + 1)) :=
  (Rp.tup (Rps.map fun l hl => Rp.nm (h l hl).1 (h l hl).2)).mono (Nat.mul_le_mul_right _ hj)
theorem StOk.rp {ns W : List Str} {ls : List (List Str)} {j k : Nat} (h : StOk ns W ls) (hW : ∀ w ∈ W, okW w) (hj : ns.length ≤ j) (hk : W.length ≤ k) (n : Nat) : Rp (n + 2) (stD ls) (j * (k * 8 + 1)) :=
  Rp.st (fun l hl => ⟨fun w hw => hW w (h.sub l hl w hw), by have := nodup_len (h.nd l hl) (h.sub l hl); omega⟩) (by rw [h.len]; exact hj)
theorem Rp.sa {n : Nat} {p : Str × Str} (h1 : okW p.1) (h2 : okW p.2) : Rp (n + 1) (saD p) 16 := (Rp.tup (Rps.cons (Rp.w h1) (Rps.cons (Rp.w h2) Rps.nil))).mono (by omega)
theorem Rp.tr {n j k : Nat} {ns : List Str} {ties : List (Str × Str)} (h : ∀ w ∈ ns, okW w) (hs : ∀ p ∈ ties, p.1 ∈ ns ∧ p.2 ∈ ns) (hj : ns.length ≤ j) (hk : ties.length ≤ k) : Rp (n + 3) (trD ns ties) (j * 8 + k * 17 + 2) := by
  have a := Rp.nm (n := n + 1) h hj
  have b := Rp.tup (n := n + 1) (Rps.map (n := n + 1) (f := saD) (l := ties) fun p hp => Rp.sa (h _ (hs p hp).1) (h _ (hs p hp).2))
  refine (Rp.tup (Rps.cons a (Rps.cons b Rps.nil))).mono ?_
  have := Nat.mul_le_mul_right 17 hk
  omega
/-! ### what by_stand makes -/
theorem StOk.by_ {ns W : List Str} {ls st : List (List Str)} (h : StOk ns W ls) (k : st.length = ns.length) : StOk ns W (byF ns ls st) := by
  refine ⟨by simp [byF, k], fun l hl => ?_, fun l hl => ?_⟩ <;> obtain ⟨s, _, rfl⟩ := List.mem_map.mp hl
  · exact (byNF_ok h (names := s) (here := []) (by simp) (by simp)).1
  · exact (byNF_ok h (names := s) (here := []) (by simp) (by simp)).2
theorem dd_tr (n : Nat) {ns : List Str} {ties : List (Str × Str)} (h1 : ns.length ≤ 1000) (h2 : ties.length ≤ 1000) : dd (n + 3) (trD ns ties) = true := by
  have a := dd_nm (n + 1) h1
  have b : ∀ l : List (Str × Str), dds (n + 1) (l.map saD) = true := by
    intro l
    induction l with
    | nil => rfl
    | cons p l ih => simp [dds, ih, saD, dd]
  have c : dd (n + 2) (.tup (ties.map saD)) = true := by
    show (decide ((ties.map saD).length ≤ 1000) && dds (n + 1) (ties.map saD)) = true
    rw [b]; simpa using h2
  show dd (n + 3) (.tup [nmD ns, .tup (ties.map saD)]) = true
  simp [dd, dds, a, b ties, h2]
theorem pm2 (a b c : D) : pm [2, 1, 0] [a, b, c] = [c, b, a] := rfl
end Z

set_option Elab.async false
set_option linter.all false
set_option maxRecDepth 100000
set_option maxHeartbeats 1000000
/-! P50: led, with lists for tuples; a saying along no tie is refused. -/
namespace Z
open PySem
@[simp] theorem tupT_l2 {r : Rho} (gs) (o : Bool) (a b : Str) : tupT gs (.lst o [.str a, .str b]) r = gs [.str a, .str b] r := rfl
def SaR (S : D) (p : Str × Str) : Prop := S = saD p ∨ S = plD p
def TrR (T : D) (ns : List Str) (ties : List (Str × Str)) : Prop := T = trD ns ties ∨ T = tlD ns ties
theorem TrR.tn {T : D} {ns : List Str} {ties : List (Str × Str)} (h : TrR T ns ties) : TnR T ns := by
  rcases h with rfl | rfl
  · exact TnR.t ns ties
  · exact TnR.l ns ties
def asTup : D → D
  | .lst _ l => .tup l
  | d => d
theorem r_is_tied {T : D} {ns : List Str} {ties : List (Str × Str)} {a b : Str} (hT : TrR T ns ties) (h : ties.length ≤ 1000) : fis_tied [T, .str a, .str b] = some (.ok (.bl (tied ties a b)) []) := by
  rcases hT with rfl | rfl
  · exact p_is_tied h
  have n2 := (TnR.l ns ties).no
  have n3 := noOwns_pls ties
  have key := lcL_map (vs := [3]) (g := nameT 3) (m := opN true tupleS (consM (slotO true 3) (ret []))) (r := [some (tlD ns ties), some (.str a), some (.str b), none]) (f := asTup) (ds := ties.map plD) (fun d hd => by
    obtain ⟨p, _, rfl⟩ := List.mem_map.mp hd
    exact ⟨_, _, by simp [plD]; rfl, by simp [plD]; rfl, by simp [plD, asTup]⟩)
  have q := inS_sa false true (lo a b, hi a b) ties
  have z : ties.length ≤ 10000000 := by omega
  have e1 : (ties.map plD).map asTup = ties.map saD := by simp [asTup, plD, saD]
  rw [e1] at key
  simp only [saD] at q
  have i1 : idxS [tlD ns ties, .int 1] = some (.lst false (ties.map plD)) := rfl
  have k1 := kn_of n2
  have sr : srcD (.lst false (ties.map plD)) = some (ties.map plD) := srcD_lst n3
  simp [fis_tied, run, mis_tied, k1, i1, n3, sr, key, z, q, tied]
theorem SaR.no {S : D} {p : Str × Str} (h : SaR S p) : noOwn S = true := by rcases h with rfl | rfl <;> simp [saD, plD]
theorem r_look {T S : D} {ns : List Str} {ties : List (Str × Str)} {p : Str × Str} (hT : TrR T ns ties) (hS : SaR S p) (h : ties.length ≤ 1000) (ht : tied ties p.1 p.2 = true) : flook_saying [T, S] = some (.ok .non []) := by
  have n1 := hT.tn.no
  have f1 := freeze_no n1
  rcases hS with rfl | rfl <;> simp [flook_saying, run, mlook_saying, r_is_tied hT h, ht, n1, f1, plD, saD]
theorem r_lookX {T S : D} {ns : List Str} {ties : List (Str × Str)} {p : Str × Str} (hT : TrR T ns ties) (hS : SaR S p) (h : ties.length ≤ 1000) (ht : tied ties p.1 p.2 = false) : flook_saying [T, S] = some (.exc "NoTie" ["saying"] [S] []) := by
  have n1 := hT.tn.no
  have f1 := freeze_no n1
  rcases hS with rfl | rfl <;> simp [flook_saying, run, mlook_saying, r_is_tied hT h, ht, n1, f1, plD, saD]
theorem r_heard {T S : D} {ns : List Str} {ties : List (Str × Str)} {ls : List (List Str)} {p : Str × Str} (hT : TrR T ns ties) (hS : SaR S p) (h1 : ties.length ≤ 1000) (h2 : ns.length ≤ 1000) (hl : ls.length = ns.length) (hp : SayOk ns ties p) (hz : ∀ l ∈ ls, l.length ≤ 1000000) :
    fheard [T, stD ls, S] = some (.ok (stD (heF ns ls p)) []) := by
  have i1 := (plF_mem hp.m1).2
  have i2 := (plF_mem hp.m2).2
  rw [← hl] at i1 i2
  have g1 : ls.getD (plF ns p.1) [] = ls[plF ns p.1] := by simp [i1]
  have g2 : ls.getD (plF ns p.2) [] = ls[plF ns p.2] := by simp [i2]
  have z1 := hz _ (List.getElem_mem i1)
  have z2 := hz _ (List.getElem_mem i2)
  have z : ls[plF ns p.2].length + ls[plF ns p.1].length < 10000000 := by omega
  have lst : listS [stD ls] = some (.lst true (ls.map nmD)) := rfl
  have ms : ∀ (x : List Str) (i : Nat), (ls.map nmD).set i (nmD x) = (ls.set i x).map nmD := fun x i => by rw [List.map_set]
  have n1 := hT.tn.no
  have f1 := freeze_no n1
  have el := r_look hT hS h1 hp.t
  have e1 := r_place_of hT.tn hp.m1
  have e2 := r_place_of hT.tn hp.m2
  have e3 := p_as_stand (show ls.length ≤ 1000 by omega)
  rcases hS with rfl | rfl
  · simp only [saD] at el
    simp [-List.map_set, ms, fheard, run, mheard, saD, el, n1, f1, e1, e2, e3, lst, i1, i2, p_joined z, ixN_nat]
    simp [-List.map_set, ms, heF, stD, tupleS, i1, i2]
  · simp only [plD] at el
    simp [-List.map_set, ms, fheard, run, mheard, plD, el, n1, f1, e1, e2, e3, lst, i1, i2, p_joined z, ixN_nat]
    simp [-List.map_set, ms, heF, stD, tupleS, i1, i2]
theorem r_heardX {T S L : D} {ns : List Str} {ties : List (Str × Str)} {p : Str × Str} (hT : TrR T ns ties) (hS : SaR S p) (h : ties.length ≤ 1000) (ht : tied ties p.1 p.2 = false) : fheard [T, L, S] = some (.exc "NoTie" ["saying"] [S] []) := by
  have n1 := hT.tn.no
  have f1 := freeze_no n1
  have n2 := hS.no
  have f2 := freeze_no n2
  simp [fheard, run, mheard, r_lookX hT hS h ht, n1, f1, n2, f2]
def ledB : MS := setS 3 (cax0 fheard (consM (slotO false 0) (consM (slotO false 3) (consM (slotO false 4) (ret [])))))
inductive AllS : List D → List (Str × Str) → Prop
  | nil : AllS [] []
  | cons {S p ss ps} : SaR S p → AllS ss ps → AllS (S :: ss) (p :: ps)
theorem AllS.sa : ∀ q : List (Str × Str), AllS (q.map saD) q
  | [] => .nil
  | p :: q => .cons (.inl rfl) (AllS.sa q)
theorem AllS.pl : ∀ q : List (Str × Str), AllS (q.map plD) q
  | [] => .nil
  | p :: q => .cons (.inr rfl) (AllS.pl q)
theorem AllS.no : ∀ {ss : List D} {q : List (Str × Str)}, AllS ss q → noOwns ss = true
  | _, _, .nil => rfl
  | _, _, .cons h t => by simp [h.no, t.no]
theorem r_led_loop {T : D} {ns W : List Str} {ties : List (Str × Str)} (hT : TrR T ns ties) (h1 : ties.length ≤ 1000) (h2 : ns.length ≤ 1000) (hW : W.length ≤ 1000) {B C : Option D} : ∀ {ss : List D} {row : List (Str × Str)} (ls : List (List Str)) (p : Option D), AllS ss row → StOk ns W ls → (∀ q ∈ row, SayOk ns ties q) →
    ∃ p', ∀ more, forL (nameT 4) ledB (ss ++ more) [some T, B, C, some (stD ls), p] = forL (nameT 4) ledB more [some T, B, C, some (stD (doF ns ls row)), p']
  | _, _, ls, p, .nil, _, _ => ⟨p, fun _ => rfl⟩
  | S :: ss, q :: row, ls, p, .cons hS a, h, hr => by
    obtain ⟨p', ih⟩ := r_led_loop hT h1 h2 hW (B := B) (C := C) (heF ns ls q) (some S) a (h.he q) fun x hx => hr x (List.mem_cons_of_mem _ hx)
    refine ⟨p', fun more => ?_⟩
    have e := r_heard hT hS h1 h2 h.len (hr q List.mem_cons_self) (h.small hW)
    show _ = forL (nameT 4) ledB more [some T, B, C, some (stD (doF ns (heF ns ls q) row)), p']
    rw [← ih more]
    have n1 := hT.tn.no
    have f1 := freeze_no n1
    have n2 := hS.no
    have f2 := freeze_no n2
    simp [ledB, forL, e, n1, f1, n2, f2]
theorem r_as_stand {S : D} {st : List (List Str)} (h : StR S st) (hz : st.length ≤ 1000) : fas_stand [S] = some (.ok (stD st) []) := by
  obtain ⟨as, es, ha⟩ := h.src
  have n1 := h.no
  have key : ∀ {as : List D} {st : List (List Str)}, All2 as st → lcL [1] (nameT 1) yesM (opN true tupleS (consM (slotO true 1) (ret []))) as [some S, none] = some (st.map nmD, [some S, none]) := fun {as st} a => by
    induction a with
    | nil => rfl
    | cons hs t ih =>
      rename_i a l as ls
      have k1 := kn_of hs.no
      have k2 : tupleS [a] = some (nmD l) := by
        have e := hs.lst
        cases a with
        | tup l' => cases e; rfl
        | lst o l' => cases e; rfl
        | _ => cases e
      simp [lcL, k1, k2, ih, hs.no]
  have z : as.length ≤ 10000000 := by have := ha.len; omega
  simp [fas_stand, run, mas_stand, es, key ha, z, n1]
  simp [tupleS, stD]
/-- led, one way or the other -/
theorem r_led {T L R : D} {ns W : List Str} {ties : List (Str × Str)} {ls : List (List Str)} {ss : List D} {row : List (Str × Str)} (hT : TrR T ns ties) (hL : StR L ls) (h1 : ties.length ≤ 1000) (h2 : ns.length ≤ 1000) (hW : W.length ≤ 1000) (h : StOk ns W ls) (hr : ∀ q ∈ row, SayOk ns ties q)
    (eR : R = .tup ss ∨ R = .lst false ss) (a : AllS ss row) : fled [T, L, R] = some (.ok (stD (doF ns ls row)) []) := by
  obtain ⟨p', key⟩ := r_led_loop hT h1 h2 hW (B := some L) (C := some R) ls none a h hr
  have key := key []
  rw [List.append_nil] at key
  have l1 : ls.length ≤ 1000 := by have := h.len; omega
  have e1 := r_as_stand hL l1
  have n1 := hT.tn.no
  have n2 := hL.no
  have f2 := freeze_no n2
  have n3 := a.no
  have sr : srcD R = some ss := by rcases eR with rfl | rfl; exact srcD_tup n3; exact srcD_lst n3
  have n4 : noOwn R = true := by rcases eR with rfl | rfl <;> simp [n3]
  unfold ledB at key
  simp [fled, run, mled, e1, n2, f2, n4, sr, key, forL]
/-- .. a saying along no tie on its way -/
theorem r_ledX {T L R S : D} {ns W : List Str} {ties : List (Str × Str)} {ls : List (List Str)} {ss more : List D} {row : List (Str × Str)} {p : Str × Str} (hT : TrR T ns ties) (hL : StR L ls) (h1 : ties.length ≤ 1000) (h2 : ns.length ≤ 1000) (hW : W.length ≤ 1000) (h : StOk ns W ls) (hr : ∀ q ∈ row, SayOk ns ties q)
    (eR : R = .lst false (ss ++ S :: more)) (nR : noOwn R = true) (a : AllS ss row) (hS : SaR S p) (ht : tied ties p.1 p.2 = false) : fled [T, L, R] = some (.exc "NoTie" ["saying"] [S] []) := by
  obtain ⟨p', key⟩ := r_led_loop hT h1 h2 hW (B := some L) (C := some R) ls none a h hr
  have key := key (S :: more)
  have l1 : ls.length ≤ 1000 := by have := h.len; omega
  have e1 := r_as_stand hL l1
  have n1 := hT.tn.no
  have f1 := freeze_no n1
  have n2 := hL.no
  have f2 := freeze_no n2
  have n5 := hS.no
  have f5 := freeze_no n5
  have sr : srcD R = some (ss ++ S :: more) := by
    subst eR
    exact srcD_lst (by simpa using nR)
  have eX := r_heardX (L := stD (doF ns ls row)) hT hS h1 ht
  have key2 : forL (nameT 4) ledB (S :: more) [some T, some L, some R, some (stD (doF ns ls row)), p'] = some (.exc "NoTie" ["saying"] [S] [some T, some L, some R, some (stD (doF ns ls row)), some S]) := by
    simp [ledB, forL, eX, n1, f1, n5, f5]
  rw [key2] at key
  unfold ledB at key
  simp [fled, run, mled, e1, n2, f2, nR, sr, key]
end Z

set_option Elab.async false
set_option linter.all false
set_option maxRecDepth 100000
set_option maxHeartbeats 4000000
/-! P51: k09's answer. -/
namespace Z
open PySem
/-! ### sayings along no tie -/
theorem lo_hi (a b : Str) : (lo a b = a ∨ lo a b = b) ∧ (hi a b = a ∨ hi a b = b) := by
  rcases lohi_cases a b with ⟨h1, h2⟩ | ⟨h1, h2⟩ <;> simp [h1, h2]
theorem un_same {ns : List Str} {ties : List (Str × Str)} (t : Tree ns ties) (a : Str) : tied ties a a = false := by
  unfold tied
  rw [decide_eq_false_iff_not]
  intro h
  have h2 := (t.mem _ h).2.2
  have e1 : lo a a = a := by rcases (lo_hi a a).1 with q | q <;> exact q
  have e2 : hi a a = a := by rcases (lo_hi a a).2 with q | q <;> exact q
  simp only [e1, e2] at h2
  exact slt_irrefl _ h2
theorem un_far {ns : List Str} {ties : List (Str × Str)} (t : Tree ns ties) {a b : Str} (hb : b ∉ ns) : tied ties a b = false := by
  unfold tied
  rw [decide_eq_false_iff_not]
  intro h
  obtain ⟨h1, h2, h3⟩ := t.mem _ h
  rcases lohi_cases a b with ⟨e1, e2⟩ | ⟨e1, e2⟩
  · simp only [e2] at h2; exact hb h2
  · simp only [e1] at h1; exact hb h1
theorem no_zz : ¬ isNm "zzzzzz" := fun h => (h.2.2 122 (by decide +kernel)).2.2 rfl
theorem no_B : ¬ isNm "B" := fun h => by
  have := (h.2.2 66 (by decide +kernel)).1
  omega
/-! ### slices -/
theorem cut_upD (l : List D) (s : Nat) : cutD l (some (s : Int)) none = l.drop s := by
  unfold cutD
  rw [HT.sIx_nat, HT.sIx_none]
  by_cases h : s ≤ l.length
  · rw [Nat.min_eq_left h, List.take_of_length_le (by simp)]
  · rw [Nat.min_eq_right (by omega), List.drop_of_length_le (Nat.le_refl _), List.drop_of_length_le (by omega), List.take_nil]
theorem slc_to (o : Bool) (l : List D) (k : Nat) : slcZ [.lst o l, .non, .int (k : Int)] = some (.lst true (l.take k)) := by
  show some (D.lst true (cutD l none (some (k : Int)))) = _
  rw [cut_lowD]
theorem slc_from (o : Bool) (l : List D) (k : Nat) : slcZ [.lst o l, .int (k : Int), .non] = some (.lst true (l.drop k)) := by
  show some (D.lst true (cutD l (some (k : Int)) none)) = _
  rw [cut_upD]
/-! ### what is asked of the refusal -/
theorem told_no {S : D} {p : Str × Str} (hS : SaR S p) : told_law_is_refused [S] (.exc "NoTie" ["saying"] [S] []) = some (.bl true) := by
  have n := hS.no
  have sm : f_law_same 12 [S, S] = some (.ok (.bl true) []) := p_same 11 _ (by rcases hS with rfl | rfl <;> simp [dd, dds, saD, plD])
  have k1 : ("NoTie" : Str) ∈ xk.Kn := by decide
  have k2 : ("LookupError" : String) ∈ xk.Bt := by decide
  have k3 : ("LookupError" : String) ∈ xk.bs "NoTie" := by decide
  have f := freeze_no n
  have i1 : isxS xk [.xcp "NoTie" ["saying"] [S], .cls "NoTie"] = some (.bl true) := by simp [isxS, k1]
  have i2 : isxS xk [.xcp "NoTie" ["saying"] [S], .ty "LookupError"] = some (.bl true) := by simp [isxS, k1, k2, k3]
  have n2 : noOwn (.xcp "NoTie" ["saying"] [S]) = true := by simp [noOwn, n]
  have f1 : fldOf "saying" ["saying"] [S] = some S := by simp [fldOf]
  simp [told_law_is_refused, toldB, k1, restM, m_law_is_refused, i1, i2, n2, f1, n, f, sm]
end Z

set_option Elab.async false
set_option linter.all false
set_option maxRecDepth 100000
set_option maxHeartbeats 4000000
/-! P52: rows as lists, ends. -/
namespace Z
open PySem
theorem fz_ls_rw (q : List (Str × Str)) : freeze (lsD (rwD false q)) = .lst false (q.map plD) := by
  show D.lst false (freezes (lsDs (q.map saD))) = _
  have : freezes (lsDs (q.map saD)) = q.map plD := by
    induction q with
    | nil => rfl
    | cons a l ih =>
      simp only [List.map_cons, lsDs, freezes, ih]
      rfl
  rw [this]
theorem kn_knT (d : D) : kn (knT d) = true := by
  unfold knT
  split
  · assumption
  · exact kn_of (noOwn_freeze d)
theorem tup_ls_rw (q : List (Str × Str)) : tupleS [knT (lsD (rwD false q))] = some (.tup (q.map plD)) := by
  have e : lsD (rwD false q) = .lst true (lsDs (q.map saD)) := rfl
  unfold knT
  split
  · rename_i h
    cases q with
    | nil => rfl
    | cons p q => exact absurd h (by rw [e]; simp [lsDs, saD, lsD, kn])
  · rw [fz_ls_rw]; rfl
theorem dd_rw (n : Nat) (q : List (Str × Str)) (h : q.length ≤ 1000) : dd (n + 2) (rwD false q) = true := by
  have b : ∀ l : List (Str × Str), dds (n + 1) (l.map saD) = true := by
    intro l
    induction l with
    | nil => rfl
    | cons p l ih => simp [dds, ih, saD, dd]
  simp [dd, rwD, b, h]
theorem noOwns_ap (a b : List D) : noOwns (a ++ b) = (noOwns a && noOwns b) := by
  induction a with
  | nil => simp
  | cons d a ih => simp [ih, Bool.and_assoc]
theorem idx_end {ns : List Str} (h : 0 < ns.length) : ∃ fl, fl ∈ ns ∧ idxS [nmD ns, .int (-1)] = some (.str fl) := by
  have e : L2.ixN (ns.map D.str).length (-1) = some (ns.length - 1) := by
    unfold L2.ixN
    rw [if_neg (by omega), if_pos (by simp; omega)]
    simp
    omega
  refine ⟨ns[ns.length - 1]'(by omega), List.getElem_mem _, ?_⟩
  show (L2.ixN (ns.map D.str).length (-1)).bind (fun k => (ns.map D.str)[k]?) = _
  rw [e]
  simp
end Z

set_option Elab.async false
set_option linter.all false
set_option maxRecDepth 100000
set_option maxHeartbeats 4000000
/-! P59: are_alike, one way or the other; refused. -/
namespace Z
open PySem
theorem r_done {T L R : D} {ns W : List Str} {ties : List (Str × Str)} {ls : List (List Str)} {ss : List D} {row : List (Str × Str)} (hT : TrR T ns ties) (hL : StR L ls) (h1 : ties.length ≤ 1000) (h2 : ns.length ≤ 1000) (hW : W.length ≤ 1000) (h : StOk ns W ls) (hr : ∀ q ∈ row, SayOk ns ties q)
    (eR : R = .tup ss ∨ R = .lst false ss) (a : AllS ss row) : fdone [T, L, R] = some (.ok (stD (doF ns ls row)) []) := r_led hT hL h1 h2 hW h hr eR a
theorem r_doneX {T L R S : D} {ns W : List Str} {ties : List (Str × Str)} {ls : List (List Str)} {ss more : List D} {row : List (Str × Str)} {p : Str × Str} (hT : TrR T ns ties) (hL : StR L ls) (h1 : ties.length ≤ 1000) (h2 : ns.length ≤ 1000) (hW : W.length ≤ 1000) (h : StOk ns W ls) (hr : ∀ q ∈ row, SayOk ns ties q)
    (eR : R = .lst false (ss ++ S :: more)) (nR : noOwn R = true) (a : AllS ss row) (hS : SaR S p) (ht : tied ties p.1 p.2 = false) : fdone [T, L, R] = some (.exc "NoTie" ["saying"] [S] []) := r_ledX hT hL h1 h2 hW h hr eR nR a hS ht
theorem r_bare {T : D} {ns : List Str} (hT : TnR T ns) (h : ns.length ≤ 1000) : fbare [T] = some (.ok (stD (baF ns)) []) := by
  obtain ⟨A, e, s⟩ := hT.nm
  have n1 := hT.no
  have k1 := kn_of n1
  have k2 := kn_of s.no
  have k3 := knT_of k2
  have key := lcL_map (vs := [1]) (g := nameT 1) (m := tupM (consM (mT (slotE 1)) (ret []))) (r := [some T, none]) (f := fun d => .tup [d]) (ds := ns.map D.str) (fun d hd => by
    obtain ⟨p, _, rfl⟩ := List.mem_map.mp hd
    exact ⟨_, _, by simp; rfl, by simp; rfl, by simp⟩)
  have z : ns.length ≤ 10000000 := by omega
  have ee : (ns.map D.str).map (fun d => D.tup [d]) = (ns.map fun n => [n]).map nmD := by simp [nmD]
  rw [ee] at key
  simp [-List.map_map, fbare, run, mbare, k1, e, s.no, s.src, key, z, baF]
  simp [-List.map_map, tupleS, stD]
theorem r_alike {T R R' : D} {ns : List Str} {ties : List (Str × Str)} {ss ss' : List D} {row row' : List (Str × Str)} (hT : TrR T ns ties) (h1 : ties.length ≤ 1000) (h2 : ns.length ≤ 1000) (hr : ∀ q ∈ row, SayOk ns ties q) (hr' : ∀ q ∈ row', SayOk ns ties q)
    (eR : R = .tup ss ∨ R = .lst false ss) (a : AllS ss row) (eR' : R' = .tup ss' ∨ R' = .lst false ss') (a' : AllS ss' row') : fare_alike [T, R, R'] = some (.ok (.bl (decide (doF ns (baF ns) row = doF ns (baF ns) row'))) []) := by
  have b : StOk ns ns (baF ns) := baF_ok fun _ h => h
  have e := r_bare hT.tn h2
  have e1 := r_done hT (StR.t _) h1 h2 h2 b hr eR a
  have e2 := r_done hT (StR.t _) h1 h2 h2 b hr' eR' a'
  have n1 := hT.tn.no
  have f1 := freeze_no n1
  have n2 : noOwn R = true := by rcases eR with rfl | rfl <;> simp [a.no]
  have n3 : noOwn R' = true := by rcases eR' with rfl | rfl <;> simp [a'.no]
  have f2 := freeze_no n2
  have f3 := freeze_no n3
  simp [fare_alike, run, mare_alike, n1, f1, n2, f2, n3, f3, e, e1, e2]
/-- the first row is refused -/
theorem r_alikeX {T R R' S : D} {ns : List Str} {ties : List (Str × Str)} {ss more : List D} {row : List (Str × Str)} {p : Str × Str} (hT : TrR T ns ties) (h1 : ties.length ≤ 1000) (h2 : ns.length ≤ 1000) (hr : ∀ q ∈ row, SayOk ns ties q)
    (eR : R = .lst false (ss ++ S :: more)) (nR : noOwn R = true) (a : AllS ss row) (hS : SaR S p) (ht : tied ties p.1 p.2 = false) : fare_alike [T, R, R'] = some (.exc "NoTie" ["saying"] [S] []) := by
  have b : StOk ns ns (baF ns) := baF_ok fun _ h => h
  have e := r_bare hT.tn h2
  have e1 := r_doneX hT (StR.t _) h1 h2 h2 b hr eR nR a hS ht
  have n1 := hT.tn.no
  have f1 := freeze_no n1
  have f2 := freeze_no nR
  have n5 := hS.no
  simp [fare_alike, run, mare_alike, n1, f1, nR, f2, e, e1, n5]
/-- the other one is -/
theorem r_alikeY {T R R' S : D} {ns : List Str} {ties : List (Str × Str)} {ss ss' more : List D} {row row' : List (Str × Str)} {p : Str × Str} (hT : TrR T ns ties) (h1 : ties.length ≤ 1000) (h2 : ns.length ≤ 1000) (hr : ∀ q ∈ row, SayOk ns ties q) (hr' : ∀ q ∈ row', SayOk ns ties q)
    (eR' : R' = .tup ss' ∨ R' = .lst false ss') (a' : AllS ss' row') (eR : R = .lst false (ss ++ S :: more)) (nR : noOwn R = true) (a : AllS ss row) (hS : SaR S p) (ht : tied ties p.1 p.2 = false) : fare_alike [T, R', R] = some (.exc "NoTie" ["saying"] [S] []) := by
  have b : StOk ns ns (baF ns) := baF_ok fun _ h => h
  have e := r_bare hT.tn h2
  have e1 := r_doneX hT (StR.t _) h1 h2 h2 b hr eR nR a hS ht
  have e2 := r_done hT (StR.t _) h1 h2 h2 b hr' eR' a'
  have n1 := hT.tn.no
  have f1 := freeze_no n1
  have f2 := freeze_no nR
  have n5 := hS.no
  have n3 : noOwn R' = true := by rcases eR' with rfl | rfl <;> simp [a'.no]
  have f3 := freeze_no n3
  simp [fare_alike, run, mare_alike, n1, f1, nR, f2, n3, f3, e, e1, e2, n5]
/-! ### rows out of rows -/
theorem sub_sa {q : List (Str × Str)} : ∀ {l : List D}, (∀ d ∈ l, ∃ p ∈ q, d = saD p) → ∃ q' : List (Str × Str), l = q'.map saD ∧ (∀ p ∈ q', p ∈ q)
  | [], _ => ⟨[], rfl, fun _ z => nomatch z⟩
  | d :: l, h => by
    obtain ⟨p, hp, rfl⟩ := h d List.mem_cons_self
    obtain ⟨q', rfl, k⟩ := sub_sa (l := l) fun x hx => h x (List.mem_cons_of_mem _ hx)
    exact ⟨p :: q', rfl, fun x hx => (List.mem_cons.mp hx).elim (fun e => e ▸ hp) (k x)⟩
/-- a row whose sayings all stand in q, not longer -/
def Sub (q : List (Str × Str)) (X : D) : Prop := ∃ q' : List (Str × Str), X = rwD true q' ∧ (∀ p ∈ q', p ∈ q) ∧ q'.length ≤ q.length
theorem cut_sub (o : Bool) (q : List (Str × Str)) (lo hi : Option Int) : Sub q (.lst true (cutD (q.map saD) lo hi)) := by
  obtain ⟨q', e, k⟩ := sub_sa (q := q) (l := cutD (q.map saD) lo hi) fun d hd => by
    obtain ⟨p, hp, rfl⟩ := List.mem_map.mp (List.mem_of_mem_drop (List.mem_of_mem_take hd))
    exact ⟨p, hp, rfl⟩
  refine ⟨q', by rw [e]; rfl, k, ?_⟩
  have := congrArg List.length e
  unfold cutD at this
  simp at this
  omega
theorem slc_sub (o : Bool) (q : List (Str × Str)) (lo hi : D) (h1 : lo = .non ∨ ∃ i : Int, lo = .int i) (h2 : hi = .non ∨ ∃ i : Int, hi = .int i) : ∃ q' : List (Str × Str), slcZ [rwD o q, lo, hi] = some (rwD true q') ∧ (∀ p ∈ q', p ∈ q) ∧ q'.length ≤ q.length := by
  have key : ∀ a b, slcS a b [rwD o q] = some (.lst true (cutD (q.map saD) a b)) := fun _ _ => rfl
  rcases h1 with rfl | ⟨i, rfl⟩ <;> rcases h2 with rfl | ⟨j, rfl⟩ <;> obtain ⟨q', e, k⟩ := cut_sub o q _ _ <;> exact ⟨q', (key _ _).trans (congrArg some e), k⟩
end Z

set_option Elab.async false
set_option linter.all false
set_option maxRecDepth 100000
set_option maxHeartbeats 4000000
/-! P55: one saying, with lists for tuples. -/
namespace Z
open PySem
theorem in_nm (neg : Bool) (w : Str) (l : List Str) : inS neg [.str w, nmD l] = some (.bl (neg ^^ decide (w ∈ l))) := by
  simp only [inS, nmD, any_str, show pl 50 (.str w) = true from rfl, pls_strs, Bool.and_self, if_true]
theorem in_saT (neg : Bool) (w : Str × Str) (l : List (Str × Str)) : inS neg [saD w, .tup (l.map saD)] = some (.bl (neg ^^ decide (w ∈ l))) := by
  simp only [inS, any_sa, pl_sa 49, pls_sas 49, Bool.and_self, if_true]
theorem l_tied {ns : List Str} {ties : List (Str × Str)} {a b : Str} : f_law_tied [trD ns ties, .str a, .str b] = some (.ok (.bl (tied ties a b)) []) := by
  have q := in_saT false (lo a b, hi a b) ties
  simp only [saD] at q
  simp [f_law_tied, run, m_law_tied, q, tied]
section
variable {T L S : D} {ns W : List Str} {ties : List (Str × Str)} {ls : List (List Str)} {p : Str × Str}
theorem r_heardL (hT : TrR T ns ties) (hL : StR L ls) (hS : SaR S p) (h1 : ties.length ≤ 1000) (h2 : ns.length ≤ 1000) (hW : W.length ≤ 1000) (h : StOk ns W ls) (hp : SayOk ns ties p) : fheard [T, L, S] = some (.ok (stD (heF ns ls p)) []) := by
  have hl := h.len
  have hz := h.small hW
  have i1 := (plF_mem hp.m1).2
  have i2 := (plF_mem hp.m2).2
  rw [← hl] at i1 i2
  have g1 : ls.getD (plF ns p.1) [] = ls[plF ns p.1] := by simp [i1]
  have g2 : ls.getD (plF ns p.2) [] = ls[plF ns p.2] := by simp [i2]
  have z1 := hz _ (List.getElem_mem i1)
  have z2 := hz _ (List.getElem_mem i2)
  have z : ls[plF ns p.2].length + ls[plF ns p.1].length < 10000000 := by omega
  have lst : listS [stD ls] = some (.lst true (ls.map nmD)) := rfl
  have ms : ∀ (x : List Str) (i : Nat), (ls.map nmD).set i (nmD x) = (ls.set i x).map nmD := fun x i => by rw [List.map_set]
  have n1 := hT.tn.no
  have f1 := freeze_no n1
  have n2 := hL.no
  have f2 := freeze_no n2
  have el := r_look hT hS h1 hp.t
  have e1 := r_place_of hT.tn hp.m1
  have e2 := r_place_of hT.tn hp.m2
  have e3 := r_as_stand hL (show ls.length ≤ 1000 by omega)
  rcases hS with rfl | rfl
  · simp only [saD] at el
    simp [-List.map_set, ms, fheard, run, mheard, saD, el, n1, f1, n2, f2, e1, e2, e3, lst, i1, i2, p_joined z, ixN_nat]
    simp [-List.map_set, ms, heF, stD, tupleS, i1, i2]
  · simp only [plD] at el
    simp [-List.map_set, ms, fheard, run, mheard, plD, el, n1, f1, n2, f2, e1, e2, e3, lst, i1, i2, p_joined z, ixN_nat]
    simp [-List.map_set, ms, heF, stD, tupleS, i1, i2]
end
theorem tied_ok {ns : List Str} {ties : List (Str × Str)} (t : Tree ns ties) {p : Str × Str} (h : tied ties p.1 p.2 = true) : SayOk ns ties p := by
  have hm := t.mem _ (of_decide_eq_true h)
  rcases lohi_cases p.1 p.2 with ⟨e1, e2⟩ | ⟨e1, e2⟩
  · simp only [e1, e2] at hm
    exact ⟨hm.1, hm.2.1, h⟩
  · simp only [e1, e2] at hm
    exact ⟨hm.2.1, hm.1, h⟩
theorem lst_sa (p : Str × Str) : listS [saD p] = some (.lst true [.str p.1, .str p.2]) := rfl
theorem fz_pl (p : Str × Str) : freeze (.lst true [.str p.1, .str p.2]) = plD p := rfl
theorem idx_sa0 (p : Str × Str) : idxS [saD p, .int 0] = some (.str p.1) := rfl
theorem idx_sa1 (p : Str × Str) : idxS [saD p, .int 1] = some (.str p.2) := rfl
theorem l_spokeL {ns W : List Str} {ties : List (Str × Str)} {ls : List (List Str)} {p : Str × Str} (h2 : ns.length ≤ 1000) (hW : W.length ≤ 1000) (k : StOk ns W ls) (m1 : p.1 ∈ ns) (m2 : p.2 ∈ ns) :
    f_law_spoke [trD ns ties, stD ls, plD p] = some (.ok (stD (heF ns ls p)) []) := by
  have i1 := (plF_mem m1).2
  have i2 := (plF_mem m2).2
  rw [← k.len] at i1 i2
  have g1 : ls.getD (plF ns p.1) [] = ls[plF ns p.1] := by simp [i1]
  have g2 : ls.getD (plF ns p.2) [] = ls[plF ns p.2] := by simp [i2]
  have x1 := index_nm m1
  have x2 := index_nm m2
  generalize hi : plF ns p.1 = i at *
  generalize hj : plF ns p.2 = j at *
  have nd := k.nd _ (List.getElem_mem i1)
  have z1 := nodup_len (k.nd _ (List.getElem_mem i1)) (k.sub _ (List.getElem_mem i1))
  have z2 := nodup_len (k.nd _ (List.getElem_mem i2)) (k.sub _ (List.getElem_mem i2))
  have kp : kn (plD p) = true := rfl
  have np : noOwn (plD p) = true := rfl
  have fp : freeze (plD p) = plD p := rfl
  have e1 : lcL [5] (nameT 5) yesM (opM "list" false indexS (mT (opN true listS (consM (mK (op2 true idxS (slotO true 0) (mK (ret (.int 0))))) (ret [])))) (consM (slotO false 5) (ret []))) [.str p.1, .str p.2] [some (trD ns ties), some (stD ls), some (plD p), none, none, none, none, none, none] =
      some ([.int (i : Int), .int (j : Int)], [some (trD ns ties), some (stD ls), some (plD p), none, none, none, none, none, none]) := by
    simp [lcL, x1, x2]
  have e2 := lcL_filter (vs := [8]) (g := nameT 8) (t := op2 false (inS true) (slotO false 8) (mT (op2 true idxS (slotO true 1) (slotO true 4)))) (m := slotE 8) (r := [some (trD ns ties), some (stD ls), some (plD p), some (.int (i : Int)), some (.int (j : Int)), none, some (.lst true (ls.map nmD)), none, none])
    (p := fun d => match d with | .str w => decide (w ∉ ls[j]) | _ => false) (f := id) (ds := ls[i].map D.str) (fun d hd => by
      obtain ⟨w, _, rfl⟩ := List.mem_map.mp hd
      exact ⟨_, _, by simp; rfl, by simp [i2]; rfl, by simp, fun _ => ⟨_, by simp; rfl, by simp⟩⟩)
  have e3 : ((ls[i].map D.str).filter (fun d => match d with | .str w => decide (w ∉ ls[j]) | _ => false)).map id = (ls[i].filter fun w => decide (w ∉ ls[j])).map .str := by
    rw [List.map_id, List.filter_map]; rfl
  rw [e3] at e2
  have zf : (ls[i].filter fun w => decide (w ∉ ls[j])).length ≤ ls[i].length := List.length_filter_le _ _
  have zi : ls[i].length ≤ 10000000 := by omega
  have e4 := add_nm (a := ls[j]) (b := ls[i].filter fun w => decide (w ∉ ls[j])) (by omega)
  have e5 := joinF_filter (a := ls[j]) nd
  have lst : listS [stD ls] = some (.lst true (ls.map nmD)) := rfl
  have ms : ∀ (x : List Str) (i : Nat), (ls.map nmD).set i (nmD x) = (ls.set i x).map nmD := fun x i => by rw [List.map_set]
  have t1 : tupleS [.lst true ((ls[i].filter fun w => decide (w ∉ ls[j])).map .str)] = some (nmD (ls[i].filter fun w => decide (w ∉ ls[j]))) := rfl
  have t2 : ∀ X : List (List Str), tupleS [.lst true (X.map nmD)] = some (stD X) := fun _ => rfl
  have src : srcD (plD p) = some [.str p.1, .str p.2] := srcD_lst rfl
  have fin : m_law_spoke [some (trD ns ties), some (stD ls), some (plD p), none, none, none, none, none, none] = some (.rt (stD (ls.set j (ls[j] ++ ls[i].filter fun w => decide (w ∉ ls[j])))) [some (trD ns ties), some (stD ls), some (plD p), some (.int (i : Int)), some (.int (j : Int)), none, some (.lst true ((ls.set j (ls[j] ++ ls[i].filter fun w => decide (w ∉ ls[j]))).map nmD)), some (.lst true ((ls[i].filter fun w => decide (w ∉ ls[j])).map .str)), none]) := by
    unfold m_law_spoke
    refine (seq_step (r1 := [some (trD ns ties), some (stD ls), some (plD p), some (.int (i : Int)), some (.int (j : Int)), none, none, none, none]) ?_).trans ?_
    · have kn2 : noOwns [D.int (i : Int), D.int (j : Int)] = true := rfl
      simp [src, e1, tupT, kn2, np]
    refine (seq_step (r1 := [some (trD ns ties), some (stD ls), some (plD p), some (.int (i : Int)), some (.int (j : Int)), none, some (.lst true (ls.map nmD)), none, none]) ?_).trans ?_
    · simp [lst]
    refine (seq_step (r1 := [some (trD ns ties), some (stD ls), some (plD p), some (.int (i : Int)), some (.int (j : Int)), none, some (.lst true (ls.map nmD)), some (.lst true ((ls[i].filter fun w => decide (w ∉ ls[j])).map .str)), none]) ?_).trans ?_
    · simp at e2
      simp [i1, e2, zi]
    refine (seq_step (r1 := [some (trD ns ties), some (stD ls), some (plD p), some (.int (i : Int)), some (.int (j : Int)), none, some (.lst true ((ls.set j (ls[j] ++ ls[i].filter fun w => decide (w ∉ ls[j]))).map nmD)), some (.lst true ((ls[i].filter fun w => decide (w ∉ ls[j])).map .str)), none]) ?_).trans ?_
    · simp at e4 t1
      simp [-List.map_set, i2, t1, e4, ixN_nat, ms]
    · simp [-List.map_set, t2]
  have := run_rt (N := 9) (np := 3) (nio := 0) (m := m_law_spoke) (ds := [trD ns ties, stD ls, plD p]) fin rfl rfl
  refine this.trans ?_
  simp only [heF, hi, hj, g1, g2, e5]

theorem r_spoke {S : D} {ns W : List Str} {ties : List (Str × Str)} {ls : List (List Str)} {p : Str × Str} (hS : SaR S p) (h2 : ns.length ≤ 1000) (hW : W.length ≤ 1000) (k : StOk ns W ls) (m1 : p.1 ∈ ns) (m2 : p.2 ∈ ns) :
    f_law_spoke [trD ns ties, stD ls, S] = some (.ok (stD (heF ns ls p)) []) := by
  rcases hS with rfl | rfl
  · exact l_spoke h2 hW k m1 m2
  · exact l_spokeL h2 hW k m1 m2
theorem mul_n0 (d : D) (o : Bool) : mulS [.lst o [d], .int 0] = some (.lst true []) := by simp [mulS]
theorem mul_n1 (d : D) (o : Bool) : mulS [.lst o [d], .int 1] = some (.lst true [d]) := by simp [mulS]
theorem enumD_app : ∀ (i : Nat) (a b : List D), enumD i (a ++ b) = enumD i a ++ enumD (i + a.length) b
  | i, [], b => by simp [enumD]
  | i, d :: a, b => by
    simp only [List.cons_append, enumD, List.length_cons, enumD_app (i + 1) a b]
    rw [show i + 1 + a.length = i + (a.length + 1) by omega]
theorem SaR.i0 {S : D} {p : Str × Str} (h : SaR S p) : idxS [S, .int 0] = some (.str p.1) := by rcases h with rfl | rfl <;> rfl
theorem SaR.i1 {S : D} {p : Str × Str} (h : SaR S p) : idxS [S, .int 1] = some (.str p.2) := by rcases h with rfl | rfl <;> rfl
theorem AllS.len : ∀ {ss : List D} {q : List (Str × Str)}, AllS ss q → ss.length = q.length
  | _, _, .nil => rfl
  | _, _, .cons _ t => by simp [t.len]
theorem AllS.app : ∀ {ss : List D} {q : List (Str × Str)} {ss' : List D} {q' : List (Str × Str)}, AllS ss q → AllS ss' q' → AllS (ss ++ ss') (q ++ q')
  | _, _, _, _, .nil, h => h
  | _, _, _, _, .cons a t, h => .cons a (t.app h)
/-- the first saying along no tie, if any -/
theorem AllS.split {ties : List (Str × Str)} : ∀ {ss : List D} {q : List (Str × Str)}, AllS ss q → (∀ p ∈ q, tied ties p.1 p.2 = true) ∨ ∃ (s1 : List D) (S : D) (s2 : List D) (q1 : List (Str × Str)) (p : Str × Str) (q2 : List (Str × Str)), ss = s1 ++ S :: s2 ∧ q = q1 ++ p :: q2 ∧ AllS s1 q1 ∧ SaR S p ∧ AllS s2 q2 ∧ (∀ p ∈ q1, tied ties p.1 p.2 = true) ∧ tied ties p.1 p.2 = false
  | _, _, .nil => .inl fun _ h => nomatch h
  | S :: ss, p :: q, .cons hS t => by
    cases e : tied ties p.1 p.2 with
    | false => exact .inr ⟨[], S, ss, [], p, q, rfl, rfl, .nil, hS, t, (fun _ h => nomatch h), e⟩
    | true =>
      rcases t.split (ties := ties) with h | ⟨s1, S', s2, q1, p', q2, rfl, rfl, h1, h2, h3, h4, h5⟩
      · exact .inl fun x hx => (List.mem_cons.mp hx).elim (fun z => by rw [z]; exact e) (h x)
      · exact .inr ⟨S :: s1, S', s2, p :: q1, p', q2, rfl, rfl, .cons hS h1, h2, h3, (fun x hx => (List.mem_cons.mp hx).elim (fun z => by rw [z]; exact e) (h4 x)), h5⟩
theorem dds_all (n : Nat) : ∀ {ss : List D} {q : List (Str × Str)}, AllS ss q → dds (n + 1) ss = true
  | _, _, .nil => rfl
  | _, _, .cons h t => by
    have := dds_all n t
    rcases h with rfl | rfl <;> simp [dds, saD, plD, dd, this]
theorem dd_all (n : Nat) {ss : List D} {q : List (Str × Str)} (a : AllS ss q) (h : q.length ≤ 1000) : dd (n + 2) (.lst false ss) = true := by
  have := a.len
  simp [dd, dds_all n a]; omega
theorem fz_ls_all : ∀ {ss : List D} {q : List (Str × Str)}, AllS ss q → freezes (lsDs ss) = q.map plD
  | _, _, .nil => rfl
  | _, _, .cons h t => by
    have e := fz_ls_all t
    rcases h with rfl | rfl
    · simp only [lsDs, freezes, List.map_cons, e]; rfl
    · simp only [lsDs, freezes, List.map_cons, e]; rfl
theorem tup_ls_all {ss : List D} {q : List (Str × Str)} (a : AllS ss q) : tupleS [knT (lsD (.lst false ss))] = some (.tup (q.map plD)) := by
  have e : lsD (.lst false ss) = .lst true (lsDs ss) := rfl
  have fz := fz_ls_all a
  unfold knT
  split
  · rename_i h
    cases a with
    | nil => rfl
    | cons hS t => exact absurd h (by rw [e]; rcases hS with rfl | rfl <;> simp [lsDs, saD, plD, lsD, kn])
  · rw [e]
    show tupleS [.lst false (freezes (lsDs ss))] = _
    rw [fz]; rfl
theorem allOwns_ints (l : List Int) : allOwns (l.map .int) = true := by
  induction l with
  | nil => rfl
  | cons a l ih => simp [allOwns, allOwn, ih]
theorem dds_ints (n : Nat) (l : List Int) : dds n (l.map .int) = true := by
  induction l with
  | nil => cases n <;> rfl
  | cons a l ih =>
    simp only [List.map_cons, dds, ih, Bool.and_true]
    cases n <;> rfl
end Z

set_option Elab.async false
set_option linter.all false
set_option maxRecDepth 100000
set_option maxHeartbeats 4000000
/-! P76: sayings of a row that bring nothing. -/
namespace Z
open PySem
/-- their places -/
def idF (ns : List Str) : Nat → List (List Str) → List (Str × Str) → List Int
  | _, _, [] => []
  | i, ls, p :: row => (if heF ns ls p = ls then [(i : Int)] else []) ++ idF ns (i + 1) (heF ns ls p) row
theorem idF_len (ns : List Str) : ∀ (i : Nat) (ls : List (List Str)) (row : List (Str × Str)), (idF ns i ls row).length ≤ row.length
  | _, _, [] => Nat.le_refl _
  | i, ls, p :: row => by
    have := idF_len ns (i + 1) (heF ns ls p) row
    unfold idF
    by_cases h : heF ns ls p = ls
    · rw [if_pos h]; simp; omega
    · rw [if_neg h]; simp; omega
def idleB : MS := (seqS (setS 7 (cax0 fheard (consM (slotO false 0) (consM (slotO false 3) (consM (slotO false 6) (ret []))))))     (seqS (ifS (op2 false eqS (slotO false 7) (slotO false 3)) (exS (appM 4 (consM (mT (slotE 5)) (ret [])))) nxS)     (setS 3 (slotE 7))))
def idleG : MT := tupT (consT (nameT 5) (consT (nameT 6) nilT))
section
variable {T L R S : D} {ns W : List Str} {ties : List (Str × Str)} {ls : List (List Str)} {p : Str × Str}
theorem idle_loop (hT : TrR T ns ties) (h1 : ties.length ≤ 1000) (h2 : ns.length ≤ 1000) (hW : W.length ≤ 1000) {B C : Option D} : ∀ {ss : List D} {row : List (Str × Str)} (i : Nat) (ls : List (List Str)) (acc : List Int) (q5 q6 q7 : Option D), AllS ss row → StOk ns W ls → (∀ q ∈ row, SayOk ns ties q) → acc.length + row.length ≤ 100000 →
    ∃ q5' q6' q7', ∀ more, forL idleG idleB (enumD i ss ++ more) [some T, B, C, some (stD ls), some (.lst true (acc.map .int)), q5, q6, q7] = forL idleG idleB more [some T, B, C, some (stD (doF ns ls row)), some (.lst true ((acc ++ idF ns i ls row).map .int)), q5', q6', q7']
  | _, _, i, ls, acc, q5, q6, q7, .nil, _, _, _ => ⟨q5, q6, q7, fun _ => by simp [idF, enumD, doF]⟩
  | S :: ss, q :: row, i, ls, acc, q5, q6, q7, .cons hS a, h, hr, hz => by
    have e := r_heard hT hS h1 h2 h.len (hr q List.mem_cons_self) (h.small hW)
    have n1 := hT.tn.no
    have f1 := freeze_no n1
    have n2 := hS.no
    have f2 := freeze_no n2
    have z1 : acc.length < 10000000 := by simp at hz; omega
    by_cases hq : heF ns ls q = ls
    · obtain ⟨q5', q6', q7', ih⟩ := idle_loop hT h1 h2 hW (B := B) (C := C) (i + 1) (heF ns ls q) (acc ++ [(i : Int)]) (some (.int (i : Int))) (some S) (some (stD (heF ns ls q))) a (h.he q) (fun x hx => hr x (List.mem_cons_of_mem _ hx)) (by simp at hz ⊢; omega)
      refine ⟨q5', q6', q7', fun more => ?_⟩
      have e1 : acc ++ idF ns i ls (q :: row) = (acc ++ [(i : Int)]) ++ idF ns (i + 1) (heF ns ls q) row := by simp [idF, hq]
      show _ = forL idleG idleB more [some T, B, C, some (stD (doF ns (heF ns ls q) row)), _, q5', q6', q7']
      rw [e1, ← ih more]
      simp [idleB, idleG, enumD, forL, tupT, e, n1, f1, n2, f2, hq, z1]
    · obtain ⟨q5', q6', q7', ih⟩ := idle_loop hT h1 h2 hW (B := B) (C := C) (i + 1) (heF ns ls q) acc (some (.int (i : Int))) (some S) (some (stD (heF ns ls q))) a (h.he q) (fun x hx => hr x (List.mem_cons_of_mem _ hx)) (by simp at hz ⊢; omega)
      refine ⟨q5', q6', q7', fun more => ?_⟩
      have e1 : acc ++ idF ns i ls (q :: row) = acc ++ idF ns (i + 1) (heF ns ls q) row := by simp [idF, hq]
      show _ = forL idleG idleB more [some T, B, C, some (stD (doF ns (heF ns ls q) row)), _, q5', q6', q7']
      rw [e1, ← ih more]
      simp [idleB, idleG, enumD, forL, tupT, e, n1, f1, n2, f2, hq]
theorem r_idle {ss : List D} {row : List (Str × Str)} (hT : TrR T ns ties) (hL : StR L ls) (h1 : ties.length ≤ 1000) (h2 : ns.length ≤ 1000) (hW : W.length ≤ 1000) (h : StOk ns W ls) (hr : ∀ q ∈ row, SayOk ns ties q) (hz : row.length ≤ 1000)
    (eR : R = .tup ss ∨ R = .lst false ss) (a : AllS ss row) : fidle_in [T, L, R] = some (.ok (.lst true ((idF ns 0 ls row).map .int)) []) := by
  obtain ⟨q5, q6, q7, key⟩ := idle_loop hT h1 h2 hW (B := some L) (C := some R) 0 ls [] none none none a h hr (by simpa using (by omega : row.length ≤ 100000))
  have key := key []
  rw [List.append_nil, List.nil_append, List.map_nil] at key
  have l1 : ls.length ≤ 1000 := by have := h.len; omega
  have e1 := r_as_stand hL l1
  have n1 := hT.tn.no
  have n2 := hL.no
  have f2 := freeze_no n2
  have n3 := a.no
  unfold idleB idleG at key
  rcases eR with rfl | rfl <;> simp [fidle_in, run, midle_in, e1, n2, f2, n3, key, forL]
theorem r_idleX {ss more : List D} {row : List (Str × Str)} (hT : TrR T ns ties) (hL : StR L ls) (h1 : ties.length ≤ 1000) (h2 : ns.length ≤ 1000) (hW : W.length ≤ 1000) (h : StOk ns W ls) (hr : ∀ q ∈ row, SayOk ns ties q) (hz : row.length ≤ 1000)
    (eR : R = .lst false (ss ++ S :: more)) (nR : noOwn R = true) (a : AllS ss row) (hS : SaR S p) (ht : tied ties p.1 p.2 = false) : fidle_in [T, L, R] = some (.exc "NoTie" ["saying"] [S] []) := by
  obtain ⟨q5, q6, q7, key⟩ := idle_loop hT h1 h2 hW (B := some L) (C := some R) 0 ls [] none none none a h hr (by simpa using (by omega : row.length ≤ 100000))
  have key := key (enumD (0 + ss.length) (S :: more))
  rw [← enumD_app, List.nil_append, List.map_nil] at key
  have l1 : ls.length ≤ 1000 := by have := h.len; omega
  have e1 := r_as_stand hL l1
  have n1 := hT.tn.no
  have f1 := freeze_no n1
  have n2 := hL.no
  have f2 := freeze_no n2
  have n5 := hS.no
  have f5 := freeze_no n5
  have eX := r_heardX (L := stD (doF ns ls row)) hT hS h1 ht
  have key2 : ∀ X, forL idleG idleB (enumD (0 + ss.length) (S :: more)) [some T, some L, some R, some (stD (doF ns ls row)), X, q5, q6, q7] = some (.exc "NoTie" ["saying"] [S] [some T, some L, some R, some (stD (doF ns ls row)), X, some (.int ((0 + ss.length : Nat) : Int)), some S, q7]) := fun X => by
    simp [idleB, idleG, enumD, forL, tupT, eX, n1, f1, n5, f5]
  rw [key2] at key
  unfold idleB idleG at key
  subst eR
  have n3 : noOwns (ss ++ S :: more) = true := by simpa using nR
  simp [fidle_in, run, midle_in, e1, n2, f2, n3, key]
end
end Z

set_option Elab.async false
set_option linter.all false
set_option maxRecDepth 100000
set_option maxHeartbeats 4000000
/-! P77: k06: a row is right. -/
namespace Z
open PySem
theorem told6_ok (d : D) (io : List D) : told_law_told [] (.ok d io) = some d := by
  simp [told_law_told, toldA, restM, m_law_told, isS, retV]
theorem told6_tie {S : D} (hS : noOwn S = true) (io : List D) : told_law_told [] (.exc "NoTie" ["saying"] [S] io) = some (.lst true [.str "tie", S]) := by
  have k1 : ("NoTie" : Str) ∈ xk.Kn := by decide
  have k4 : ("NoName" : Str) ∈ xk.Kn := by decide
  have k2 : ("LookupError" : String) ∈ xk.Bt := by decide
  have k3 : ("LookupError" : String) ∈ xk.bs "NoTie" := by decide
  have i1 : isxS xk [.xcp "NoTie" ["saying"] [S], .cls "NoTie"] = some (.bl true) := by simp [isxS, k1]
  have i2 : isxS xk [.xcp "NoTie" ["saying"] [S], .ty "LookupError"] = some (.bl true) := by simp [isxS, k1, k2, k3]
  have n2 : noOwn (.xcp "NoTie" ["saying"] [S]) = true := by simp [noOwn, hS]
  have f1 : fldOf "saying" ["saying"] [S] = some S := by simp [fldOf]
  have is1 : isS [.xcp "NoTie" ["saying"] [S], .non] = some (.bl false) := rfl
  simp [told_law_told, toldA, k1, restM, m_law_told, is1, i1, i2, n2, f1, hS]
def rrB : MS := (seqS (setS 8 (andM (op2 false (inS false) (mT (op2 true idxS (slotO true 7) (mK (ret (.int 0))))) (mT (op2 true idxS (slotO true 0) (mK (ret (.int 0)))))) (andM (op2 false (inS false) (mT (op2 true idxS (slotO true 7) (mK (ret (.int 1))))) (mT (op2 true idxS (slotO true 0) (mK (ret (.int 0)))))) (call0 f_law_tied (consM (slotO false 0) (consM (mT (op2 true idxS (slotO true 7) (mK (ret (.int 0))))) (consM (mT (op2 true idxS (slotO true 7) (mK (ret (.int 1))))) (ret []))))))))     (ifS (andM (op2 false isS (slotO false 5) (mT (ret .non))) (slotE 8)) (seqS (setS 9 (call0 f_law_spoke (consM (slotO false 0) (consM (slotO false 3) (consM (slotO false 7) (ret []))))))     (par2 4 3 (consM (mT (op2 true addS (slotO true 4) (mK (op2 true mulS (mK (lstM (consM (mT (slotE 6)) (ret [])))) (mK (opN false intS (consM (mT (op2 false eqS (slotO false 9) (slotO false 3))) (ret [])))))))) (consM (mT (slotE 9)) (ret []))))) (ifS (op2 false isS (slotO false 5) (mT (ret .non))) (setS 5 (lstM (consM (mT (ret (.str "tie"))) (consM (mT (slotE 7)) (ret []))))) nxS)))
def rrG : MT := tupT (consT (nameT 6) (consT (nameT 7) nilT))
section
variable {S : D} {ns W : List Str} {ties : List (Str × Str)} {ls : List (List Str)} {p : Str × Str}
/-- good sayings -/
theorem rr_loop (t : Tree ns ties) (h2 : ns.length ≤ 1000) (hW : W.length ≤ 1000) {B C s10 s11 s12 : Option D} : ∀ {ss : List D} {row : List (Str × Str)} (i : Nat) (ls : List (List Str)) (acc : List Int) (q6 q7 q8 q9 : Option D), AllS ss row → StOk ns W ls → (∀ q ∈ row, tied ties q.1 q.2 = true) → acc.length + row.length ≤ 100000 →
    ∃ q6' q7' q8' q9', ∀ more, forL rrG rrB (enumD i ss ++ more) [some (trD ns ties), B, C, some (stD ls), some (.lst true (acc.map .int)), some .non, q6, q7, q8, q9, s10, s11, s12] = forL rrG rrB more [some (trD ns ties), B, C, some (stD (doF ns ls row)), some (.lst true ((acc ++ idF ns i ls row).map .int)), some .non, q6', q7', q8', q9', s10, s11, s12]
  | _, _, i, ls, acc, q6, q7, q8, q9, .nil, _, _, _ => ⟨q6, q7, q8, q9, fun _ => by simp [idF, enumD, doF]⟩
  | S :: ss, q :: row, i, ls, acc, q6, q7, q8, q9, .cons hS a, h, hr, hz => by
    have tq := hr q List.mem_cons_self
    have sy := tied_ok t tq
    have m1 := sy.m1
    have m2 := sy.m2
    have e := r_spoke (ties := ties) hS h2 hW h m1 m2
    have et := l_tied (ns := ns) (ties := ties) (a := q.1) (b := q.2)
    rw [tq] at et
    have c1 := in_nm false q.1 ns
    have c2 := in_nm false q.2 ns
    have n2 := hS.no
    have f2 := freeze_no n2
    have k2 := kn_of n2
    have i0 := hS.i0
    have i1 := hS.i1
    have z1 : acc.length + 1 ≤ 10000000 := by simp at hz; omega
    have z2 : acc.length ≤ 10000000 := by omega
    have na := noOwns_ints acc
    have isn : isS [D.non, D.non] = some (.bl true) := rfl
    by_cases hq : heF ns ls q = ls
    · obtain ⟨q6', q7', q8', q9', ih⟩ := rr_loop t h2 hW (B := B) (C := C) (s10 := s10) (s11 := s11) (s12 := s12) (i + 1) (heF ns ls q) (acc ++ [(i : Int)]) (some (.int (i : Int))) (some S) (some (.bl true)) (some (stD (heF ns ls q))) a (h.he q) (fun x hx => hr x (List.mem_cons_of_mem _ hx)) (by simp at hz ⊢; omega)
      refine ⟨q6', q7', q8', q9', fun more => ?_⟩
      have e1 : acc ++ idF ns i ls (q :: row) = (acc ++ [(i : Int)]) ++ idF ns (i + 1) (heF ns ls q) row := by simp [idF, hq]
      have ad : addS [.lst true (acc.map .int), .lst true [.int (i : Int)]] = some (.lst true ((acc ++ [(i : Int)]).map .int)) := by simp [addS, z1]
      have mu := mul_n1 (.int (i : Int)) true
      show _ = forL rrG rrB more [some (trD ns ties), B, C, some (stD (doF ns (heF ns ls q) row)), _, some .non, q6', q7', q8', q9', s10, s11, s12]
      rw [e1, ← ih more]
      simp [-List.map_append, rrB, rrG, enumD, forL, tupT, e, et, c1, c2, m1, m2, n2, f2, k2, i0, i1, isn, na, mu, ad, hq]
    · obtain ⟨q6', q7', q8', q9', ih⟩ := rr_loop t h2 hW (B := B) (C := C) (s10 := s10) (s11 := s11) (s12 := s12) (i + 1) (heF ns ls q) acc (some (.int (i : Int))) (some S) (some (.bl true)) (some (stD (heF ns ls q))) a (h.he q) (fun x hx => hr x (List.mem_cons_of_mem _ hx)) (by simp at hz ⊢; omega)
      refine ⟨q6', q7', q8', q9', fun more => ?_⟩
      have e1 : acc ++ idF ns i ls (q :: row) = acc ++ idF ns (i + 1) (heF ns ls q) row := by simp [idF, hq]
      have ad : addS [.lst true (acc.map .int), .lst true []] = some (.lst true (acc.map .int)) := by simp [addS, z2]
      have mu := mul_n0 (.int (i : Int)) true
      have kt0 : knT (.lst true []) = .lst true [] := rfl
      have kn0 : kn (.lst true []) = true := rfl
      show _ = forL rrG rrB more [some (trD ns ties), B, C, some (stD (doF ns (heF ns ls q) row)), _, some .non, q6', q7', q8', q9', s10, s11, s12]
      rw [e1, ← ih more]
      simp [-List.map_append, rrB, rrG, enumD, forL, tupT, e, et, c1, c2, m1, m2, n2, f2, k2, i0, i1, isn, na, mu, ad, hq, kt0, kn0]
theorem fine_any (hS : SaR S p) {r : Rho} (h0 : r[0]? = some (some (trD ns ties))) (h7 : r[7]? = some (some S)) (hl : 8 < r.length) : ∃ b : Bool, (setS 8 (andM (op2 false (inS false) (mT (op2 true idxS (slotO true 7) (mK (ret (.int 0))))) (mT (op2 true idxS (slotO true 0) (mK (ret (.int 0)))))) (andM (op2 false (inS false) (mT (op2 true idxS (slotO true 7) (mK (ret (.int 1))))) (mT (op2 true idxS (slotO true 0) (mK (ret (.int 0)))))) (call0 f_law_tied (consM (slotO false 0) (consM (mT (op2 true idxS (slotO true 7) (mK (ret (.int 0))))) (consM (mT (op2 true idxS (slotO true 7) (mK (ret (.int 1))))) (ret [])))))))) r = some (.nx (r.set 8 (some (.bl b)))) ∧ (tied ties p.1 p.2 = false → b = false) := by
  have et := l_tied (ns := ns) (ties := ties) (a := p.1) (b := p.2)
  have c1 := in_nm false p.1 ns
  have c2 := in_nm false p.2 ns
  have k2 := kn_of hS.no
  have i0 := hS.i0
  have i1 := hS.i1
  by_cases m1 : p.1 ∈ ns
  · by_cases m2 : p.2 ∈ ns
    · exact ⟨tied ties p.1 p.2, by simp [h0, h7, hl, k2, i0, i1, c1, c2, m1, m2, et], id⟩
    · exact ⟨false, by simp [h0, h7, hl, k2, i0, i1, c1, c2, m1, m2], fun _ => rfl⟩
  · exact ⟨false, by simp [h0, h7, hl, k2, i0, i1, c1, m1], fun _ => rfl⟩
/-- behind a strange one nothing more -/
theorem rr_rest {B C s3 s4 s9 s10 s11 s12 : Option D} {o : Bool} {x : List D} : ∀ {ss : List D} {row : List (Str × Str)} (i : Nat) (q6 q7 q8 : Option D), AllS ss row →
    ∃ q6' q7' q8', forL rrG rrB (enumD i ss) [some (trD ns ties), B, C, s3, s4, some (.lst o x), q6, q7, q8, s9, s10, s11, s12] = some (.nx [some (trD ns ties), B, C, s3, s4, some (.lst o x), q6', q7', q8', s9, s10, s11, s12])
  | _, _, i, q6, q7, q8, .nil => ⟨q6, q7, q8, rfl⟩
  | S :: ss, q :: row, i, q6, q7, q8, .cons hS a => by
    obtain ⟨b, e, _⟩ := fine_any (ns := ns) (ties := ties) hS (r := [some (trD ns ties), B, C, s3, s4, some (.lst o x), some (.int (i : Int)), some S, q8, s9, s10, s11, s12]) rfl rfl (by simp)
    obtain ⟨q6', q7', q8', ih⟩ := rr_rest (B := B) (C := C) (s3 := s3) (s4 := s4) (s9 := s9) (s10 := s10) (s11 := s11) (s12 := s12) (o := o) (x := x) (i + 1) (some (.int (i : Int))) (some S) (some (.bl b)) a
    refine ⟨q6', q7', q8', ?_⟩
    have isn : isS [.lst o x, D.non] = some (.bl false) := rfl
    rw [← ih]
    have eb : rrB [some (trD ns ties), B, C, s3, s4, some (.lst o x), some (.int (i : Int)), some S, q8, s9, s10, s11, s12] = some (.nx [some (trD ns ties), B, C, s3, s4, some (.lst o x), some (.int (i : Int)), some S, some (.bl b), s9, s10, s11, s12]) := by
      unfold rrB
      refine (seq_step e).trans ?_
      simp [isn]
    simp [rrG, enumD, forL, tupT, eb]
theorem rr_bad (hS : SaR S p) (ht : tied ties p.1 p.2 = false) {B C s3 s4 s9 s10 s11 s12 q6 q7 q8 : Option D} {i : Nat} :
    rrB [some (trD ns ties), B, C, s3, s4, some .non, some (.int (i : Int)), some S, q8, s9, s10, s11, s12] = some (.nx [some (trD ns ties), B, C, s3, s4, some (.lst true [.str "tie", S]), some (.int (i : Int)), some S, some (.bl false), s9, s10, s11, s12]) := by
  obtain ⟨b, e, hb⟩ := fine_any (ns := ns) (ties := ties) hS (r := [some (trD ns ties), B, C, s3, s4, some .non, some (.int (i : Int)), some S, q8, s9, s10, s11, s12]) rfl rfl (by simp)
  have hb := hb ht
  subst hb
  have n2 := hS.no
  have isn : isS [D.non, D.non] = some (.bl true) := rfl
  unfold rrB
  refine (seq_step e).trans ?_
  simp [isn, n2]
theorem rr_good {ss : List D} {row : List (Str × Str)} (w : Wd ns ties) (hW : W.length ≤ 1000) (h : StOk ns W ls) (a : AllS ss row) (hr : ∀ q ∈ row, tied ties q.1 q.2 = true) (hz : row.length ≤ 900) : f_law_row_right [trD ns ties, stD ls, .lst false ss] = some (.ok (.bl true) []) := by
  have tl := w.t.len
  have hn := w.n
  have nz : ns.length ≤ 1000 := by omega
  have tz : ties.length ≤ 1000 := by omega
  have sy : ∀ q ∈ row, SayOk ns ties q := fun q hq => tied_ok w.t (hr q hq)
  obtain ⟨q6, q7, q8, q9, key⟩ := rr_loop w.t nz hW (B := some (stD ls)) (C := some (.lst false ss)) (s10 := none) (s11 := none) (s12 := none) 0 ls [] none none none none a h hr (by simp; omega)
  have key := key []
  rw [List.append_nil, List.nil_append, List.map_nil] at key
  have na := a.no
  have fna := freezes_noOwn _ na
  have d1 : fdone [trD ns ties, stD ls, .lst false ss] = some (.ok (stD (doF ns ls row)) []) := r_done (.inl rfl) (StR.t ls) tz nz hW h sy (.inr rfl) a
  have d2 : fidle_in [trD ns ties, stD ls, .lst false ss] = some (.ok (.lst true ((idF ns 0 ls row).map .int)) []) := r_idle (.inl rfl) (StR.t ls) tz nz hW h sy (by omega) (.inr rfl) a
  have d3 : fdone [tlD ns ties, slD ls, .tup (row.map plD)] = some (.ok (stD (doF ns ls row)) []) := r_done (.inr rfl) (StR.l ls) tz nz hW h sy (.inl rfl) (AllS.pl row)
  have d4 : fidle_in [tlD ns ties, slD ls, .tup (row.map plD)] = some (.ok (.lst true ((idF ns 0 ls row).map .int)) []) := r_idle (.inr rfl) (StR.l ls) tz nz hW h sy (by omega) (.inl rfl) (AllS.pl row)
  have x1 := l_lists 11 _ (dd_tr 8 nz tz (ties := ties) (ns := ns))
  have x2 := l_lists 11 _ (h.dd nz hW 9)
  have x3 := l_lists 11 _ (dd_all 9 a (by omega))
  have y1 := (allOwn_ls 11).1 _ (dd_tr 8 nz tz (ties := ties) (ns := ns))
  have y2 := (allOwn_ls 11).1 _ (h.dd nz hW 9)
  have y3 := (allOwn_ls 11).1 _ (dd_all 9 a (by omega))
  have z1 := fz_ls_tr ns ties
  have z2 := fz_ls_st ls
  have u1 := kn_knT (lsD (.lst false ss))
  have u2 := tup_ls_all a
  have np := noOwns_pls row
  have fp : freezes (row.map plD) = row.map plD := freezes_noOwn _ np
  have il := idF_len ns 0 ls row
  generalize hI : (idF ns 0 ls row).map D.int = I at *
  have nI : noOwns I = true := by rw [← hI]; exact noOwns_ints _
  have aI : allOwns I = true := by rw [← hI]; exact allOwns_ints _
  have fI : freezes I = I := freezes_noOwn _ nI
  have lI : I.length ≤ 900 := by rw [← hI]; simp; omega
  have l9 : I.length ≤ 1000 := by omega
  have d9 : dds 9 I = true := by rw [← hI]; exact dds_ints 9 _
  have e9 : dd 10 (stD (doF ns ls row)) = true := h.do_.dd nz hW 8
  have sm : f_law_same 12 [.lst false [stD (doF ns ls row), .lst false I], .lst false [stD (doF ns ls row), .lst false I]] = some (.ok (.bl true) []) := p_same 11 _ (by simp [dd, dds, e9, l9, d9])
  have sm2 : f_law_same 12 [.lst false [stD (doF ns ls row), .lst false I, .lst false I], .lst false [stD (doF ns ls row), .lst false I, .lst false I]] = some (.ok (.bl true) []) := p_same 11 _ (by simp [dd, dds, e9, l9, d9])
  have isn : isS [D.non, D.non] = some (.bl true) := rfl
  have istn : isntS [D.non, D.non] = some (.bl false) := rfl
  have kt : knT (.lst true [.lst true I]) = .lst false [.lst false I] := by
    unfold knT
    rw [if_neg (by simp)]
    simp [fI]
  have ad : addS [.lst false [stD (doF ns ls row), .lst false I], .lst false [.lst false I]] = some (.lst true [stD (doF ns ls row), .lst false I, .lst false I]) := rfl
  have lz : I.length < 10000000 := by omega
  have key2 : m_law_row_right [some (trD ns ties), some (stD ls), some (.lst false ss), none, none, none, none, none, none, none, none, none, none] = some (.rt (.bl true) [some (trD ns ties), some (stD ls), some (.lst false ss), some (stD (doF ns ls row)), some (.lst false I), some (.non), q6, q7, q8, q9, some (.lst true [stD (doF ns ls row), .lst false I]), some (.lst true [stD (doF ns ls row), .lst true (I ++ [.str "more"])]), some (.lst false [stD (doF ns ls row), .lst false I])]) := by
    unfold m_law_row_right
    refine (seq_step (r1 := [some (trD ns ties), some (stD ls), some (.lst false ss), some (stD ls), some (.lst true []), some (.non), none, none, none, none, none, none, none]) ?_).trans ?_
    · simp
    refine (seq_step (r1 := [some (trD ns ties), some (stD ls), some (.lst false ss), some (stD (doF ns ls row)), some (.lst true I), some (.non), q6, q7, q8, q9, none, none, none]) ?_).trans ?_
    · refine forS_step (l := ([.lst false ss], enumD 0 ss)) ?_ key
      simp [na]
    refine (seq_step (r1 := [some (trD ns ties), some (stD ls), some (.lst false ss), some (stD (doF ns ls row)), some (.lst false I), some (.non), q6, q7, q8, q9, some (.lst true [stD (doF ns ls row), .lst false I]), none, none]) ?_).trans ?_
    · simp [isn, fI]
    refine (seq_step (r1 := [some (trD ns ties), some (stD ls), some (.lst false ss), some (stD (doF ns ls row)), some (.lst false I), some (.non), q6, q7, q8, q9, some (.lst true [stD (doF ns ls row), .lst false I]), some (.lst true [stD (doF ns ls row)]), none]) ?_).trans ?_
    · simp [na, fna, d1, told6_ok]
    refine (seq_step (r1 := [some (trD ns ties), some (stD ls), some (.lst false ss), some (stD (doF ns ls row)), some (.lst false I), some (.non), q6, q7, q8, q9, some (.lst true [stD (doF ns ls row), .lst false I]), some (.lst true [stD (doF ns ls row), .lst true I]), none]) ?_).trans ?_
    · simp [na, fna, d2, told6_ok, aI]
    refine (seq_step (r1 := [some (trD ns ties), some (stD ls), some (.lst false ss), some (stD (doF ns ls row)), some (.lst false I), some (.non), q6, q7, q8, q9, some (.lst true [stD (doF ns ls row), .lst false I]), some (.lst true [stD (doF ns ls row), .lst true I]), none]) ?_).trans ?_
    · simp [fI, sm]
    refine (seq_step (r1 := [some (trD ns ties), some (stD ls), some (.lst false ss), some (stD (doF ns ls row)), some (.lst false I), some (.non), q6, q7, q8, q9, some (.lst true [stD (doF ns ls row), .lst false I]), some (.lst true [stD (doF ns ls row), .lst true I]), none]) ?_).trans ?_
    · simp [istn]
    refine (seq_step (r1 := [some (trD ns ties), some (stD ls), some (.lst false ss), some (stD (doF ns ls row)), some (.lst false I), some (.non), q6, q7, q8, q9, some (.lst true [stD (doF ns ls row), .lst false I]), some (.lst true [stD (doF ns ls row), .lst true (I ++ [.str "more"])]), none]) ?_).trans ?_
    · simp [lz]
    refine (seq_step (r1 := [some (trD ns ties), some (stD ls), some (.lst false ss), some (stD (doF ns ls row)), some (.lst false I), some (.non), q6, q7, q8, q9, some (.lst true [stD (doF ns ls row), .lst false I]), some (.lst true [stD (doF ns ls row), .lst true (I ++ [.str "more"])]), some (.lst true [stD (doF ns ls row)])]) ?_).trans ?_
    · simp [x1, x2, x3, y1, y2, y3, z1, z2, u1, u2, np, fp, na, fna, d3, pm2]
    refine (seq_step (r1 := [some (trD ns ties), some (stD ls), some (.lst false ss), some (stD (doF ns ls row)), some (.lst false I), some (.non), q6, q7, q8, q9, some (.lst true [stD (doF ns ls row), .lst false I]), some (.lst true [stD (doF ns ls row), .lst true (I ++ [.str "more"])]), some (.lst true [stD (doF ns ls row), .lst true I])]) ?_).trans ?_
    · simp [x1, x2, x3, y1, y2, y3, z1, z2, u1, u2, np, fp, na, fna, d4, aI, pm2]
    · simp [fI, na, fna, nI, d2, aI, kt, ad, sm2]
  exact run_rt (N := 13) (np := 3) (nio := 0) (m := m_law_row_right) key2 rfl rfl
theorem rr_strange {s1 s2 : List D} {q1 q2 : List (Str × Str)} (w : Wd ns ties) (hW : W.length ≤ 1000) (h : StOk ns W ls) (a : AllS s1 q1) (hS : SaR S p) (a2 : AllS s2 q2) (hr : ∀ q ∈ q1, tied ties q.1 q.2 = true) (ht : tied ties p.1 p.2 = false) (hz : q1.length ≤ 900) : f_law_row_right [trD ns ties, stD ls, .lst false (s1 ++ S :: s2)] = some (.ok (.bl true) []) := by
  have tl := w.t.len
  have hn := w.n
  have nz : ns.length ≤ 1000 := by omega
  have tz : ties.length ≤ 1000 := by omega
  have sy : ∀ q ∈ q1, SayOk ns ties q := fun q hq => tied_ok w.t (hr q hq)
  have na : noOwns (s1 ++ S :: s2) = true := by simp [noOwns_ap, a.no, a2.no, hS.no]
  have fna := freezes_noOwn _ na
  obtain ⟨q6, q7, q8, q9, key⟩ := rr_loop w.t nz hW (B := some (stD ls)) (C := some (.lst false (s1 ++ S :: s2))) (s10 := none) (s11 := none) (s12 := none) 0 ls [] none none none none a h hr (by simp; omega)
  have key := key (enumD (0 + s1.length) (S :: s2))
  rw [← enumD_app, List.nil_append, List.map_nil] at key
  generalize hK : 0 + s1.length = K at *
  have bad := fun X Y => rr_bad (ns := ns) hS ht (B := some (stD ls)) (C := some (.lst false (s1 ++ S :: s2))) (s3 := X) (s4 := Y) (s9 := q9) (s10 := none) (s11 := none) (s12 := none) (q6 := q6) (q7 := q7) (q8 := q8) (i := K)
  generalize hI : some (D.lst true ((idF ns 0 ls q1).map D.int)) = I at *
  obtain ⟨x6, x7, x8, rest⟩ := rr_rest (ns := ns) (ties := ties) (B := some (stD ls)) (C := some (.lst false (s1 ++ S :: s2))) (s3 := some (stD (doF ns ls q1))) (s4 := I) (s9 := q9) (s10 := none) (s11 := none) (s12 := none) (o := true) (x := [.str "tie", S]) (K + 1) (some (.int (K : Int))) (some S) (some (.bl false)) a2
  have tail : forL rrG rrB (enumD K (S :: s2)) [some (trD ns ties), some (stD ls), some (.lst false (s1 ++ S :: s2)), some (stD (doF ns ls q1)), I, some .non, q6, q7, q8, q9, none, none, none] = some (.nx [some (trD ns ties), some (stD ls), some (.lst false (s1 ++ S :: s2)), some (stD (doF ns ls q1)), I, some (.lst true [.str "tie", S]), x6, x7, x8, q9, none, none, none]) := by
    rw [← rest]
    have bad := bad (some (stD (doF ns ls q1))) I
    simp only [enumD, forL, rrG, tupT, e_consT, e_nameT, e_nilT, List.length_cons, List.length_nil]
    simp [bad]
  rw [tail] at key
  have d1 : fdone [trD ns ties, stD ls, .lst false (s1 ++ S :: s2)] = some (.exc "NoTie" ["saying"] [S] []) := r_doneX (.inl rfl) (StR.t ls) tz nz hW h sy rfl (by simpa using na) a hS ht
  have d2 : fidle_in [trD ns ties, stD ls, .lst false (s1 ++ S :: s2)] = some (.exc "NoTie" ["saying"] [S] []) := r_idleX (.inl rfl) (StR.t ls) tz nz hW h sy (by omega) rfl (by simpa using na) a hS ht
  have n5 := hS.no
  have f5 := freeze_no n5
  have t5 := fun io => told6_tie n5 io
  have sm : f_law_same 12 [.lst false [.lst false [.str "tie", S], .lst false [.str "tie", S]], .lst false [.lst false [.str "tie", S], .lst false [.str "tie", S]]] = some (.ok (.bl true) []) := p_same 11 _ (by
    rcases hS with rfl | rfl <;> simp [dd, dds, saD, plD])
  have isl : ∀ o, isS [.lst o [.str "tie", S], D.non] = some (.bl false) := fun _ => rfl
  have istl : ∀ o, isntS [.lst o [.str "tie", S], D.non] = some (.bl true) := fun _ => rfl
  have key2 : m_law_row_right [some (trD ns ties), some (stD ls), some (.lst false (s1 ++ S :: s2)), none, none, none, none, none, none, none, none, none, none] = some (.rt (.bl true) [some (trD ns ties), some (stD ls), some (.lst false (s1 ++ S :: s2)), some (stD (doF ns ls q1)), I, some (.lst false [.str "tie", S]), x6, x7, x8, q9, some (.lst true [.lst false [.str "tie", S], .lst false [.str "tie", S]]), some (.lst true [.lst true [.str "tie", S], .lst true [.str "tie", S]]), none]) := by
    unfold m_law_row_right
    refine (seq_step (r1 := [some (trD ns ties), some (stD ls), some (.lst false (s1 ++ S :: s2)), some (stD ls), some (.lst true []), some (.non), none, none, none, none, none, none, none]) ?_).trans ?_
    · simp
    refine (seq_step (r1 := [some (trD ns ties), some (stD ls), some (.lst false (s1 ++ S :: s2)), some (stD (doF ns ls q1)), I, some (.lst true [.str "tie", S]), x6, x7, x8, q9, none, none, none]) ?_).trans ?_
    · refine forS_step (l := ([.lst false (s1 ++ S :: s2)], enumD 0 (s1 ++ S :: s2))) ?_ key
      simp [na]
    refine (seq_step (r1 := [some (trD ns ties), some (stD ls), some (.lst false (s1 ++ S :: s2)), some (stD (doF ns ls q1)), I, some (.lst false [.str "tie", S]), x6, x7, x8, q9, some (.lst true [.lst false [.str "tie", S], .lst false [.str "tie", S]]), none, none]) ?_).trans ?_
    · simp [isl, n5, f5]
    refine (seq_step (r1 := [some (trD ns ties), some (stD ls), some (.lst false (s1 ++ S :: s2)), some (stD (doF ns ls q1)), I, some (.lst false [.str "tie", S]), x6, x7, x8, q9, some (.lst true [.lst false [.str "tie", S], .lst false [.str "tie", S]]), some (.lst true [.lst true [.str "tie", S]]), none]) ?_).trans ?_
    · simp [na, fna, d1, t5]
    refine (seq_step (r1 := [some (trD ns ties), some (stD ls), some (.lst false (s1 ++ S :: s2)), some (stD (doF ns ls q1)), I, some (.lst false [.str "tie", S]), x6, x7, x8, q9, some (.lst true [.lst false [.str "tie", S], .lst false [.str "tie", S]]), some (.lst true [.lst true [.str "tie", S], .lst true [.str "tie", S]]), none]) ?_).trans ?_
    · simp [na, fna, d2, t5]
    refine (seq_step (r1 := [some (trD ns ties), some (stD ls), some (.lst false (s1 ++ S :: s2)), some (stD (doF ns ls q1)), I, some (.lst false [.str "tie", S]), x6, x7, x8, q9, some (.lst true [.lst false [.str "tie", S], .lst false [.str "tie", S]]), some (.lst true [.lst true [.str "tie", S], .lst true [.str "tie", S]]), none]) ?_).trans ?_
    · simp [n5, f5, sm]
    · simp [istl]
  exact run_rt (N := 13) (np := 3) (nio := 0) (m := m_law_row_right) key2 rfl rfl
theorem p_row_right {ss : List D} {row : List (Str × Str)} (w : Wd ns ties) (hW : W.length ≤ 1000) (h : StOk ns W ls) (a : AllS ss row) (hz : row.length ≤ 900) : f_law_row_right [trD ns ties, stD ls, .lst false ss] = some (.ok (.bl true) []) := by
  rcases a.split (ties := ties) with hr | ⟨s1, S, s2, q1, p, q2, rfl, rfl, a1, hS, a2, hr, ht⟩
  · exact rr_good w hW h a hr hz
  · exact rr_strange w hW h a1 hS a2 hr ht (by simp at hz; omega)
end
end Z

set_option Elab.async false
set_option linter.all false
set_option maxRecDepth 100000
set_option maxHeartbeats 4000000
/-! P78: k06's answer. -/
namespace Z
open PySem
theorem Rp.any {n : Nat} {S : D} {p : Str × Str} (hS : SaR S p) (h1 : okW p.1) (h2 : okW p.2) : Rp (n + 1) S 16 := by
  rcases hS with rfl | rfl
  · exact Rp.sa h1 h2
  · exact (Rp.lst (Rps.cons (Rp.w h1) (Rps.cons (Rp.w h2) Rps.nil))).mono (by omega)
theorem Rps.all {n : Nat} : ∀ {ss : List D} {row : List (Str × Str)}, AllS ss row → (∀ p ∈ row, okW p.1 ∧ okW p.2) → Rps (n + 1) ss (row.length * 17)
  | _, _, .nil, _ => Rps.nil
  | S :: ss, p :: row, .cons hS t, h => by
    have a := Rp.any (n := n) hS (h p List.mem_cons_self).1 (h p List.mem_cons_self).2
    have b := Rps.all (n := n) t fun x hx => h x (List.mem_cons_of_mem _ hx)
    have c := Rps.cons a b
    exact ⟨c.pl, c.sh, c.lf, by have := c.bk; simp at this ⊢; omega⟩
theorem Rp.row {n k : Nat} {o : Bool} {ss : List D} {row : List (Str × Str)} (a : AllS ss row) (h : ∀ p ∈ row, okW p.1 ∧ okW p.2) (hk : row.length ≤ k) : Rp (n + 2) (.lst o ss) (k * 17) :=
  (Rp.lst (Rps.all a h)).mono (by have := Nat.mul_le_mul_right 17 hk; omega)
def poB : MS := (seqS (setS 3 (call1 f_law_row (consM (slotO false 0) (consM (slotO false 1) (consM (mT (call1 (f_law_take 12) (consM (slotO false 0) (consM (mT (ret (.int 41))) (ret []))))) (ret []))))))     (seqS (ifS (op2 false eqS (mT (call1 (f_law_take 12) (consM (slotO false 0) (consM (mT (ret (.int 3))) (ret []))))) (mT (ret (.int 0)))) (seqS (setS 4 (tupM (consM (mT (call1 f_law_of (consM (slotO false 0) (consM (mT (op2 true idxS (slotO true 1) (mK (ret (.int 0))))) (ret []))))) (consM (mT (call1 f_law_of (consM (slotO false 0) (consM (mT (op2 true addS (mK (opN true listS (consM (mK (op2 true idxS (slotO true 1) (mK (ret (.int 0))))) (ret [])))) (mK (lstM (consM (mT (ret (.str "zzzzzz"))) (ret [])))))) (ret []))))) (ret [])))))     (seqS (setS 4 (ifM (op2 false eqS (mT (call1 (f_law_take 12) (consM (slotO false 0) (consM (mT (ret (.int 2))) (ret []))))) (mT (ret (.int 0)))) (opN true listS (consM (slotO true 4) (ret []))) (slotE 4)))     (seqS (setS 5 (call1 (f_law_take 12) (consM (slotO false 0) (consM (mT (op2 true addS (mK (opN false lenS (consM (slotO false 3) (ret [])))) (mK (ret (.int 1))))) (ret [])))))     (setS 3 (op2 true addS (mK (op2 true addS (mK (op2 true addS (mK (op3 true slcZ (slotO true 3) noB (intB (slotO false 5)))) (mK (lstM (consM (mT (slotE 4)) (ret [])))))) (mK (op3 true slcZ (slotO true 3) (intB (slotO false 5)) noB)))) (mK (lstM (consM (mT (tupM (consM (mT (ret (.str ""))) (consM (mT (ret (.str ""))) (ret []))))) (ret []))))))))) nxS)     (seqS (setS 6 (opN false reprS (consM (mT (lstM (consM (mT (slotE 1)) (consM (mT (slotE 2)) (consM (mT (slotE 3)) (ret [])))))) (ret []))))     (ifS (orM (notM (call0 f_law_row_right (consM (slotO false 1) (consM (slotO false 2) (consM (slotO false 3) (ret [])))))) (op2 false neS (mT (opN false reprS (consM (mT (lstM (consM (mT (slotE 1)) (consM (mT (slotE 2)) (consM (mT (slotE 3)) (ret [])))))) (ret [])))) (slotO false 6))) (retS (ret (.bl false))) nxS))))
def stB : MS := (seqS (setS 4 (tupM (consM (mT (call1 f_law_of (consM (slotO false 0) (consM (mT (op2 true idxS (slotO true 1) (mK (ret (.int 0))))) (ret []))))) (consM (mT (call1 f_law_of (consM (slotO false 0) (consM (mT (op2 true addS (mK (opN true listS (consM (mK (op2 true idxS (slotO true 1) (mK (ret (.int 0))))) (ret [])))) (mK (lstM (consM (mT (ret (.str "zzzzzz"))) (ret [])))))) (ret []))))) (ret [])))))     (seqS (setS 4 (ifM (op2 false eqS (mT (call1 (f_law_take 12) (consM (slotO false 0) (consM (mT (ret (.int 2))) (ret []))))) (mT (ret (.int 0)))) (opN true listS (consM (slotO true 4) (ret []))) (slotE 4)))     (seqS (setS 5 (call1 (f_law_take 12) (consM (slotO false 0) (consM (mT (op2 true addS (mK (opN false lenS (consM (slotO false 3) (ret [])))) (mK (ret (.int 1))))) (ret [])))))     (setS 3 (op2 true addS (mK (op2 true addS (mK (op2 true addS (mK (op3 true slcZ (slotO true 3) noB (intB (slotO false 5)))) (mK (lstM (consM (mT (slotE 4)) (ret [])))))) (mK (op3 true slcZ (slotO true 3) (intB (slotO false 5)) noB)))) (mK (lstM (consM (mT (tupM (consM (mT (ret (.str ""))) (consM (mT (ret (.str ""))) (ret []))))) (ret [])))))))))
section
variable {ns W : List Str} {ties q : List (Str × Str)} {st : List (List Str)}
theorem okW_zz : okW "zzzzzz" := ⟨by decide +kernel, by decide +kernel⟩
theorem okW_no : okW "" := ⟨by decide +kernel, by decide +kernel⟩
/-- a strange one put in -/
theorem st_turn (w : Wd ns ties) (nm : ∀ s ∈ ns, isNm s) {n : Int} {box : D} (hb : BoxOk n box) (hn : n ≤ 70000000) (hz : q.length ≤ 100) {s2 s4 s5 s6 : Option D} : ∃ (b' : D) (ss : List D) (row : List (Str × Str)) (t4 t5 : Option D),
    stB [some box, some (trD ns ties), s2, some (rwD true q), s4, s5, s6] = some (.nx [some b', some (trD ns ties), s2, some (.lst true ss), t4, t5, s6]) ∧ BoxOk (n + 10) b' ∧ AllS ss row ∧ row.length ≤ q.length + 2 ∧ (∀ p ∈ row, p ∈ q ∨ (okW p.1 ∧ okW p.2)) := by
  have hnz := w.n
  have ps := w.t.pos
  have nl : (ns.map D.str) ≠ [] := fun e => by rw [List.map_eq_nil_iff] at e; subst e; simp at ps
  have n0 : noOwns (ns.map D.str) = true := by simp
  have a0 : allOwns (ns.map D.str) = true := allOwn_nm ns
  obtain ⟨d1, b1, e1, m1, h1⟩ := p_of_t hb (by omega) nl (by simp; omega) n0 a0
  obtain ⟨x, hx, rfl⟩ := List.mem_map.mp m1
  have e1 : f_law_of [box, nmD ns] = some (.ok (.str x) [b1]) := e1
  have nl2 : ((ns ++ (["zzzzzz"] : List Str)).map D.str) ≠ [] := by simp
  have n2 : noOwns ((ns ++ (["zzzzzz"] : List Str)).map D.str) = true := noOwns_str _
  have a2 : allOwns ((ns ++ (["zzzzzz"] : List Str)).map D.str) = true := allOwn_nm _
  obtain ⟨d2, b2, e2, m2, h2⟩ := p_of_l (o := false) h1 (by omega) nl2 (by simp; omega) n2 a2
  obtain ⟨y, hy, rfl⟩ := List.mem_map.mp m2
  have f2 := freezes_noOwn _ n2
  have ad : addS [.lst true (ns.map .str), .lst true [.str "zzzzzz"]] = some (.lst true ((ns ++ (["zzzzzz"] : List Str)).map .str)) := add_strs (b := ["zzzzzz"]) true true (by simp; omega)
  obtain ⟨v, b3, e3, v0, v1, h3⟩ := p_take (size := 2) 11 h2 (by omega) (by omega) (by omega)
  obtain ⟨u, b4, e4, u0, u1, h4⟩ := p_take (size := (q.length : Int) + 1) 11 h3 (by omega) (by omega) (by omega)
  obtain ⟨k, rfl⟩ : ∃ k : Nat, u = (k : Int) := ⟨u.toNat, by omega⟩
  have o1 := h1.own
  have o2 := h2.own
  have o3 := h3.own
  have o4 := h4.own
  have lq : lenS [rwD true q] = some (.int (q.length : Int)) := by
    show some (D.int (((q.map saD).length : Nat) : Int)) = _
    rw [List.length_map]
  have c1 : slcZ [rwD true q, .non, .int (k : Int)] = some (.lst true ((q.take k).map saD)) := by
    have := slc_to true (q.map saD) k
    rw [← List.map_take] at this
    exact this
  have c2 : slcZ [rwD true q, .int (k : Int), .non] = some (.lst true ((q.drop k).map saD)) := by
    have := slc_from true (q.map saD) k
    rw [← List.map_drop] at this
    exact this
  have okx : okW x := okW_nm (nm x hx)
  have oky : okW y := by
    rcases List.mem_append.mp hy with z | z
    · exact okW_nm (nm y z)
    · simp at z; subst z; exact okW_zz
  obtain ⟨F, S, hS, eF, eE⟩ : ∃ F S : D, SaR S (x, y) ∧
      (ifM (op2 false eqS (mT (call1 (f_law_take 12) (consM (slotO false 0) (consM (mT (ret (.int 2))) (ret []))))) (mT (ret (.int 0)))) (opN true listS (consM (slotO true 4) (ret []))) (slotE 4)) [some b2, some (trD ns ties), s2, some (rwD true q), some (saD (x, y)), s5, s6] = some (.ok F [some b3, some (trD ns ties), s2, some (rwD true q), some (saD (x, y)), s5, s6]) ∧
      (∀ r : Rho, r[4]? = some (some F) → slotE 4 r = some (.ok S (r.set 4 (some S)))) := by
    by_cases hv : v = 0
    · refine ⟨.lst true [.str x, .str y], plD (x, y), .inr rfl, ?_, fun r hr => ?_⟩
      · have ls : listS [saD (x, y)] = some (.lst true [.str x, .str y]) := rfl
        subst hv
        simp [e3, o3, ls]
      · simp [hr, plD]
    · refine ⟨saD (x, y), saD (x, y), .inl rfl, ?_, fun r hr => ?_⟩
      · have hv' : (v == 0) = false := by rw [beq_eq_false_iff_ne]; exact hv
        simp [e3, o3, hv']
      · have : r.set 4 (some (saD (x, y))) = r := by
          obtain ⟨hl, he⟩ := List.getElem?_eq_some_iff.mp hr
          rw [← he, List.set_getElem_self]
        simp [hr, this]
  have n5 := hS.no
  have k5 := kn_of n5
  have q1 : noOwns ((q.take k).map saD) = true := noOwns_sas _
  have q2 : noOwns ((q.drop k).map saD) = true := noOwns_sas _
  have lz : ((q.take k).map saD).length + 1 ≤ 10000000 := by simp; omega
  have ad1 : addS [.lst true ((q.take k).map saD), .lst true [S]] = some (.lst true ((q.take k).map saD ++ [S])) := by simp only [addS]; rw [if_pos (by simp; omega)]
  have ad2 : addS [.lst true ((q.take k).map saD ++ [S]), .lst true ((q.drop k).map saD)] = some (.lst true (((q.take k).map saD ++ [S]) ++ (q.drop k).map saD)) := by simp only [addS]; rw [if_pos (by simp; omega)]
  have ad3 : addS [.lst true (((q.take k).map saD ++ [S]) ++ (q.drop k).map saD), .lst true [.tup [.str "", .str ""]]] = some (.lst true ((((q.take k).map saD ++ [S]) ++ (q.drop k).map saD) ++ [saD ("", "")])) := by simp only [addS]; rw [if_pos (by simp; omega)]; rfl
  have g1 : noOwns ((q.take k).map saD ++ [S]) = true := by rw [noOwns_ap, q1]; simp [n5]
  have g2 : noOwns (((q.take k).map saD ++ [S]) ++ (q.drop k).map saD) = true := by rw [noOwns_ap, g1, q2]; rfl
  refine ⟨b4, _, ((q.take k ++ [(x, y)]) ++ q.drop k) ++ [(("", "") : Str × Str)], some S, some (.int (k : Int)), ?_, h4.mono (by omega), (((AllS.sa _).app (.cons hS .nil)).app (AllS.sa _)).app (.cons (.inl rfl) .nil), by simp; omega, ?_⟩
  rotate_left
  · intro p hp
    simp only [List.mem_append, List.mem_singleton] at hp
    rcases hp with ((hp | rfl) | hp) | rfl
    · exact .inl (List.mem_of_mem_take hp)
    · exact .inr ⟨okx, oky⟩
    · exact .inl (List.mem_of_mem_drop hp)
    · exact .inr ⟨okW_no, okW_no⟩
  unfold stB
  refine (seq_step (r1 := [some b2, some (trD ns ties), s2, some (rwD true q), some (saD (x, y)), s5, s6]) ?_).trans ?_
  · simp [-List.map_append, e1, e2, o1, o2, ad, f2, saD]
  refine (seq_step (r1 := [some b3, some (trD ns ties), s2, some (rwD true q), some F, s5, s6]) ?_).trans ?_
  · rw [e_setS, e_bndS, eF]
    rfl
  refine (seq_step (r1 := [some b4, some (trD ns ties), s2, some (rwD true q), some F, some (.int (k : Int)), s6]) ?_).trans ?_
  · simp [lq, e4, o4]
  · have eE1 := eE [some b4, some (trD ns ties), s2, some (rwD true q), some F, some (.int (k : Int)), s6] rfl
    simp [-e_slotE, -List.map_take, -List.map_drop, -List.map_append, -List.append_assoc, eE1, c1, c2, q1, q2, n5, k5, ad1, ad2, ad3, g1, g2]
theorem po_turn (w : Wd ns ties) (n12 : ns.length ≤ 12) (nm : ∀ s ∈ ns, isNm s) (h : StOk ns ns st) {n : Int} {box : D} (hb : BoxOk n box) (hn : n ≤ 60000000) {s3 s4 s5 s6 : Option D} : ∃ (b' : D) (t3 t4 t5 t6 : Option D),
    poB [some box, some (trD ns ties), some (stD st), s3, s4, s5, s6] = some (.nx [some b', some (trD ns ties), some (stD st), t3, t4, t5, t6]) ∧ BoxOk (n + 200) b' := by
  have tr := w.t
  have tl := tr.len
  have nz : ns.length ≤ 1000 := by omega
  obtain ⟨v, b2, e2, v0, v1, h2⟩ := p_take (size := 41) 11 hb (by omega) (by omega) (by omega)
  obtain ⟨m, rfl⟩ : ∃ m : Nat, v = (m : Int) := ⟨v.toNat, by omega⟩
  obtain ⟨q, b3, e3, hq, hl, h3⟩ := p_row (much := m) h2 (by omega) tr nz (by omega)
  obtain ⟨u, b4, e4, u0, u1, h4⟩ := p_take (size := 3) 11 h3 (by omega) (by omega) (by omega)
  have o2 := h2.own
  have o3 := h3.own
  have o4 := h4.own
  have okn : ∀ x ∈ ns, okW x := fun x hx => okW_nm (nm x hx)
  have okq : ∀ p ∈ q, okW p.1 ∧ okW p.2 := fun p hp => ⟨okn _ (tr.sayOk (hq p hp)).m1, okn _ (tr.sayOk (hq p hp)).m2⟩
  have ao : allOwn (rwD true q) = true := by simp [rwD, allOwns_sas]
  obtain ⟨b5, ss, row, t4, t5, eS, h5, aS, hr, ok⟩ : ∃ (b5 : D) (ss : List D) (row : List (Str × Str)) (t4 t5 : Option D), (ifS (op2 false eqS (mT (call1 (f_law_take 12) (consM (slotO false 0) (consM (mT (ret (.int 3))) (ret []))))) (mT (ret (.int 0)))) stB nxS) [some b3, some (trD ns ties), some (stD st), some (rwD true q), s4, s5, s6] = some (.nx [some b5, some (trD ns ties), some (stD st), some (.lst true ss), t4, t5, s6]) ∧ BoxOk (n + 190) b5 ∧ AllS ss row ∧ row.length ≤ 100 ∧ (∀ p ∈ row, okW p.1 ∧ okW p.2) := by
    by_cases hu : u = 0
    · obtain ⟨b5, ss, row, t4, t5, e, h5, a, hr, ok⟩ := st_turn w nm (q := q) h4 (by omega) (by omega) (s2 := some (stD st)) (s4 := s4) (s5 := s5) (s6 := s6)
      refine ⟨b5, ss, row, t4, t5, ?_, h5.mono (by omega), a, by omega, fun p hp => (ok p hp).elim (okq p) id⟩
      rw [← e]
      subst hu
      simp [e4, o4]
    · refine ⟨b4, q.map saD, q, s4, s5, ?_, h4.mono (by omega), AllS.sa q, by omega, okq⟩
      have hu' : (u == 0) = false := by rw [beq_eq_false_iff_ne]; exact hu
      simp [e4, o4, hu', rwD]
  have rt := Rp.tr (n := 46) (ties := ties) okn (fun p hp => ⟨(tr.mem p hp).1, (tr.mem p hp).2.1⟩) n12 (show ties.length ≤ 12 by omega)
  have rl := h.rp okn n12 n12 47
  have rr := Rp.row (n := 47) (o := false) aS ok hr
  have ra := Rps.cons rt (Rps.cons rl (Rps.cons rr Rps.nil))
  have rp := fun o => repr_l (o := o) ra (by omega)
  generalize hR : (py (.lst true [trD ns ties, stD st, .lst false ss])).shown = R at rp
  have ene : neS [.str R, .str R] = some (.bl false) := by
    show some (D.bl (!(R == R))) = _
    simp
  have na := aS.no
  have fa := freezes_noOwn _ na
  have e5 := p_row_right w nz h aS (by omega)
  refine ⟨b5, some (.lst false ss), t4, t5, some (.str R), ?_, h5.mono (by omega)⟩
  unfold poB
  refine (seq_step (r1 := [some b3, some (trD ns ties), some (stD st), some (rwD true q), s4, s5, s6]) ?_).trans ?_
  · simp [e2, e3, o2, o3, ao]
  unfold stB at eS
  refine (seq_step eS).trans ?_
  refine (seq_step (r1 := [some b5, some (trD ns ties), some (stD st), some (.lst false ss), t4, t5, some (.str R)]) ?_).trans ?_
  · simp [fa, rp]
  · simp [fa, na, rp, e5, ene]
theorem p_right06 {n : Int} {box : D} (h : BoxOk n box) (hn : n ≤ 50000000) : ∃ box' : D, f_law_right [box] = some (.ok (.bl true) [box']) ∧ BoxOk (n + 6000) box' := by
  obtain ⟨ns, ties, b1, e1, tr, n1, n12, nm, h1⟩ := p_tree (low := 1) (high := 12) h (by omega) (by omega) (by omega) (by omega)
  have w : Wd ns ties := ⟨tr, by omega⟩
  have tl := tr.len
  have nz : ns.length ≤ 1000 := by omega
  obtain ⟨its, b2, e2, ki, h2⟩ := p_any_stand (ties := ties) h1 (by omega) tr.nodup (by omega)
  have o1 := h1.own
  have o2 := h2.own
  have ow := l_own (ties := ties) nz
  obtain ⟨r', eL, b5, t2, t3, t4, t5, t6, er, h5⟩ := forL_ix (g := nameT 2) (b := poB) (fun i r => ∃ (b : D) (t2 t3 t4 t5 t6 : Option D), r = [some b, some (trD ns ties), t2, t3, t4, t5, t6] ∧ BoxOk (n + 3000 + 200 * (i : Int)) b)
    (ds := [stD (baF ns), stD its]) (i := 0) (r := [some b2, some (trD ns ties), none, none, none, none, none]) ⟨b2, none, none, none, none, none, rfl, h2.mono (by simp; omega)⟩ (fun j d r hj ⟨b, t2, t3, t4, t5, t6, er, hb⟩ => by
      have jl : j < 2 := by
        have := (List.getElem?_eq_some_iff.mp hj).1
        simpa using this
      obtain ⟨st, ks, rfl⟩ : ∃ st, StOk ns ns st ∧ d = stD st := by
        have hm := List.mem_of_getElem? hj
        simp at hm
        rcases hm with rfl | rfl
        · exact ⟨_, w.b, rfl⟩
        · exact ⟨_, ki, rfl⟩
      subst er
      obtain ⟨b', x3, x4, x5, x6, e, hb'⟩ := po_turn w n12 nm ks hb (by omega) (s3 := t3) (s4 := t4) (s5 := t5) (s6 := t6)
      exact ⟨_, _, by simp <;> rfl, e, b', _, _, _, _, _, rfl, hb'.mono (by omega)⟩)
  subst er
  refine ⟨b5, ?_, h5.mono (by simp; omega)⟩
  have key : m_law_right [some box, none, none, none, none, none, none] = some (.rt (.bl true) [some b5, some (trD ns ties), t2, t3, t4, t5, t6]) := by
    unfold m_law_right
    refine (seq_step (r1 := [some b1, some (trD ns ties), none, none, none, none, none]) ?_).trans ?_
    · have e1' : f_law_tree [box, .int 1, .int 12] = some (.ok (trD ns ties) [b1]) := e1
      simp [e1', o1]
    refine (seq_step (r1 := [some b5, some (trD ns ties), t2, t3, t4, t5, t6]) ?_).trans ?_
    · refine forS_step (l := ([.tup [stD (baF ns), stD its]], [stD (baF ns), stD its])) ?_ eL
      have sr : srcD (.tup [stD (baF ns), stD its]) = some [stD (baF ns), stD its] := srcD_tup (by simp)
      simp [ow, e2, o2, sr]
    · simp
  exact run_rt (N := 7) (np := 1) (nio := 1) (m := m_law_right) key rfl rfl
end
end Z

set_option Elab.async false
set_option linter.all false
set_option maxRecDepth 100000
set_option maxHeartbeats 1000000
/-! the law's answer, by its one box's. -/
namespace Z
open PySem
def lawB : MS := seqS (setS 3 (call0 f_law_box (consM (slotO false 1) (consM (slotO false 2) (ret [])))))
    (ifS (notM (opN false allS (consM (mT (lcM [4] (srcR1 (consM (mT (ret (.int 3))) (ret []))) (nameT 4) yesM (call1 f_law_right (consM (slotO false 3) (ret []))))) (ret [])))) (retS (ret (.bl false))) nxS)
def oneR : M D := call1 f_law_right (consM (slotO false 3) (ret []))
theorem law_turn {S : Option D} {cs : List Int} {k : Nat} (hk : k ≤ 1000) (q : Option D) : ∃ q' : Option D, lawB [S, some (.lst true (cs.map .int)), some (.int (k : Int)), q, none] = some (.nx [S, some (.lst true (cs.map .int)), some (.int (k : Int)), q', none]) := by
  obtain ⟨box, e1, h0⟩ := p_box cs k hk
  have no := noOwns_ints cs
  have fz := freezes_noOwn _ no
  have o0 := h0.own
  obtain ⟨xs, r', e2, b2, er, h2, hx, hxl⟩ := lcL_ix (vs := [4]) (g := nameT 4) (m := oneR) (fun i r acc => ∃ b, r = [S, some (.lst true (cs.map .int)), some (.int (k : Int)), some b, none] ∧ BoxOk (6000 * (i : Int)) b ∧ acc = List.replicate i (.bl true) ∧ acc.length = i)
    (ds := (List.range 3).map fun i : Nat => D.int (0 + (i : Int))) (i := 0) (acc := []) (r := [S, some (.lst true (cs.map .int)), some (.int (k : Int)), some box, none]) ⟨box, rfl, by simpa using h0, rfl, rfl⟩ (fun j d r acc hj ⟨b, er, hb, hx, hl⟩ => by
      have jl : j < 3 := by
        have := (List.getElem?_eq_some_iff.mp hj).1
        simpa using this
      subst er
      obtain ⟨b', e, hb'⟩ := p_right06 hb (by omega)
      have ob := hb'.own
      refine ⟨_, .bl true, _, by simp <;> rfl, by simp [oneR, e, ob] <;> rfl, b', by simp, hb'.mono (by omega), ?_, by simp; omega⟩
      rw [hx, show 0 + j + 1 = (0 + j) + 1 by omega, List.replicate_succ'])
  subst er
  refine ⟨some b2, ?_⟩
  unfold lawB
  refine (seq_step (r1 := [S, some (.lst true (cs.map .int)), some (.int (k : Int)), some box, none]) ?_).trans ?_
  · simp [fz, e1, o0]
  · have src := src_n 3 (by omega) [S, some (.lst true (cs.map .int)), some (.int (k : Int)), some box, none]
    have src' : srcR1 (consM (mT (ret (.int 3))) (ret [])) [S, some (.lst true (cs.map .int)), some (.int (k : Int)), some box, none] = some (.ok (([], (List.range 3).map fun i : Nat => D.int (0 + (i : Int))) : Src) [S, some (.lst true (cs.map .int)), some (.int (k : Int)), some box, none]) := src
    rw [List.nil_append] at hx
    have al : allS [.lst true xs] = some (.bl true) := by
      rw [hx]
      have := bls_true (List.replicate 3 (D.bl true))
      rw [List.map_replicate] at this
      simpa using this
    have w0 : wipeR [S, some (.lst true (cs.map .int)), some (.int (k : Int)), some box, none] [4] = [S, some (.lst true (cs.map .int)), some (.int (k : Int)), some box, none] := rfl
    have zl : ((List.range 3).map fun i : Nat => D.int (0 + (i : Int))).length ≤ 10000000 := by simp
    have ec : lcM [4] (srcR1 (consM (mT (ret (.int 3))) (ret []))) (nameT 4) yesM (call1 f_law_right (consM (slotO false 3) (ret []))) [S, some (.lst true (cs.map .int)), some (.int (k : Int)), some box, none] = some (.ok (.lst true xs) [S, some (.lst true (cs.map .int)), some (.int (k : Int)), some b2, none]) := by
      unfold oneR at e2
      rw [e_lcM, e_bnd, src']
      dsimp only
      rw [w0, e2]
      dsimp only
      rw [if_pos zl]
    rw [e_ifS, e_bndS, e_notM, e_ifM, e_bnd, e_opN, e_bnd, e_consM, e_bnd, e_mT, e_bnd, ec]
    simp [al]
theorem law_loop {S : Option D} {cs : List Int} : ∀ (ks : List Nat) (p q : Option D), (∀ k ∈ ks, k ≤ 1000) → ∃ p' q' : Option D,
    forL (nameT 2) lawB (ks.map fun i : Nat => D.int (0 + (i : Int))) [S, some (.lst true (cs.map .int)), p, q, none] = some (.nx [S, some (.lst true (cs.map .int)), p', q', none])
  | [], p, q, _ => ⟨p, q, rfl⟩
  | k :: ks, p, q, h => by
    obtain ⟨q1, e⟩ := law_turn (S := S) (cs := cs) (h k List.mem_cons_self) q
    obtain ⟨p', q', ih⟩ := law_loop (S := S) (cs := cs) ks (some (.int (k : Int))) q1 fun x hx => h x (List.mem_cons_of_mem _ hx)
    refine ⟨p', q', ?_⟩
    rw [← ih]
    simp [forL, e]
theorem p_law {l : List Int} (hl : l.length ≤ 63) : flaw [.scr l] = some (.ok (.bl true) []) := by
  obtain ⟨cs, hc, e1⟩ := p_folded (l := l) (s := 2) (by omega) (by omega) hl
  have e1' : f_law_folded [.scr l, .int 2] = some (.ok (.lst true (cs.map .int)) []) := e1
  obtain ⟨m, hm, hm2⟩ : ∃ m : Nat, (if (1 : Int) < (cs.length : Int) then (cs.length : Int) else 1) = (m : Int) ∧ m ≤ 10 := by
    by_cases q : (1 : Int) < (cs.length : Int)
    · exact ⟨cs.length, by rw [if_pos q], by omega⟩
    · exact ⟨1, by rw [if_neg q]; rfl, by omega⟩
  have em : max2S [.int 1, .int (cs.length : Int)] = some (.int (m : Int)) := by rw [← hm]; rfl
  obtain ⟨p', q', eL⟩ := law_loop (S := some (.scr l)) (cs := cs) (List.range m) none none fun k hk => by have := List.mem_range.mp hk; omega
  have ao : allOwns (cs.map .int) = true := by
    clear e1 e1' eL hm em hc
    induction cs with
    | nil => rfl
    | cons a l ih => simp [allOwns, allOwn, ih]
  have key : mlaw [some (.scr l), none, none, none, none] = some (.rt (.bl true) [some (.scr l), some (.lst true (cs.map .int)), p', q', none]) := by
    unfold mlaw
    refine (seq_step (r1 := [some (.scr l), some (.lst true (cs.map .int)), none, none, none]) ?_).trans ?_
    · simp [e1', ao]
    refine (seq_step (r1 := [some (.scr l), some (.lst true (cs.map .int)), p', q', none]) ?_).trans ?_
    · refine forS_step (l := ([], (List.range ((m : Int)).toNat).map fun i : Nat => D.int (0 + (i : Int)))) (srcR1_of (k := (m : Int)) (os := [.t (.int (m : Int))]) ?_ rfl ⟨by omega, by omega⟩) eL
      simp [lenS_lst, em]
    · simp
  exact run_rt (N := 5) (np := 1) (nio := 0) (m := mlaw) key rfl rfl
end Z

set_option Elab.async false
set_option linter.all false
set_option maxRecDepth 100000
set_option maxHeartbeats 400000
namespace Z
open PySem PySem.Spec PyProof.Rows L2
def top (i : Nat) : Stmt := PySem.Challenge.pw_eartree_k06_rows_of_sayings.main.body.getD i (.Pass ⟨0, 0, 0, 0⟩)
variable {P : Program} {w : World} {G : Cfg} {mg : Str → Option Value} {base : Heap}
structure Top (P : Program) (w : World) (G : Cfg) (mg : Str → Option Value) (base : Heap) : Prop where
  b : BN mg
  dis_tied : DefZ G.K mg "is_tied" (top 4) ["tree", "one", "other"]
  das_stand : DefZ G.K mg "as_stand" (top 6) ["stand"]
  dplace_of : DefZ G.K mg "place_of" (top 7) ["tree", "name"]
  dlook_saying : DefZ G.K mg "look_saying" (top 8) ["tree", "saying"]
  djoined : DefZ G.K mg "joined" (top 9) ["one", "other"]
  dheard : DefZ G.K mg "heard" (top 10) ["tree", "lists", "saying"]
  ddone : DefZ G.K mg "done" (top 11) ["tree", "stand", "row"]
  didle_in : DefZ G.K mg "idle_in" (top 12) ["tree", "stand", "row"]
  d_law_box : DefZ G.K mg "_law_box" (top 14) ["_law_script", "_law_k"]
  d_law_take : DefZ G.K mg "_law_take" (top 15) ["_law_box_here", "_law_size"]
  d_law_folded : DefZ G.K mg "_law_folded" (top 16) ["_law_script", "_law_size"]
  d_law_same : DefZ G.K mg "_law_same" (top 17) ["_law_found", "_law_due"]
  d_law_of : DefZ G.K mg "_law_of" (top 18) ["_law_box_here", "_law_some"]
  d_law_strewn : DefZ G.K mg "_law_strewn" (top 19) ["_law_box_here", "_law_some"]
  d_law_names : DefZ G.K mg "_law_names" (top 20) ["_law_box_here", "_law_much"]
  d_law_tree : DefZ G.K mg "_law_tree" (top 21) ["_law_box_here", "_law_low", "_law_high"]
  d_law_tied : DefZ G.K mg "_law_tied" (top 22) ["_law_wood", "_law_mine", "_law_its"]
  d_law_spoke : DefZ G.K mg "_law_spoke" (top 23) ["_law_wood", "_law_heaps", "_law_pair"]
  d_law_own : DefZ G.K mg "_law_own" (top 24) ["_law_wood"]
  d_law_row : DefZ G.K mg "_law_row" (top 25) ["_law_box_here", "_law_wood", "_law_much"]
  d_law_any_stand : DefZ G.K mg "_law_any_stand" (top 26) ["_law_box_here", "_law_wood"]
  d_law_lists : DefZ G.K mg "_law_lists" (top 27) ["_law_what"]
  d_law_told : DefZ G.K mg "_law_told" (top 28) ["_law_ask"]
  d_law_row_right : DefZ G.K mg "_law_row_right" (top 29) ["_law_wood", "_law_pose", "_law_trip"]
  l_law_row_right : DefL G mg base "_law_row_right" (top 29) ["_law_wood", "_law_pose", "_law_trip"]
  d_law_right : DefZ G.K mg "_law_right" (top 30) ["_law_box_here"]
  dlaw : DefZ G.K mg "law" (top 31) ["_law_script"]
  cNoName : mg "NoName" = some (.ref (G.cls "NoName"))
  rNoName : RzOk P w G mg base "NoName" "name"
  cNoTie : mg "NoTie" = some (.ref (G.cls "NoTie"))
  rNoTie : RzOk P w G mg base "NoTie" "saying"
  xLookupError : mg "LookupError" = none
  xf : XcF G.K G.cls xk
  fname : ∀ C ∈ xk.Kn, XfC G.K (G.cls C) ∧ PySem.W.findIn G.K (.ref (G.cls C)) "name" = some none
  fsaying : ∀ C ∈ xk.Kn, XfC G.K (G.cls C) ∧ PySem.W.findIn G.K (.ref (G.cls C)) "saying" = some none
  xm_law_told : ∀ C ∈ xk.Kn, PySem.W.exmAny G.K (.ref (G.cls C)) [.ref (G.cls "NoName"), .ref (G.cls "NoTie")] = some (decide (C ∈ (["NoName", "NoTie"] : List Str)))
/-! is_tied: 0=tree 1=one 2=other 3=tie -/
theorem scis_tied : FnScope ["tree", "one", "other", "tie"] ["tree", "one", "other"] (defScope (top 4)) := ⟨rfl, rfl, rfl, by decide +kernel, rfl, by decide +kernel, by decide +kernel⟩
theorem cis_tied (T : Top P w G mg base) : CalZ P w G mg base 1 "is_tied" 0 fis_tied := by
  refine calM (k := 0) (m := mis_tied) T.dis_tied scis_tied (by decide) (fun B ios f cdv A outer s H E hio hr tkp => have hN := scis_tied.nd;  ?_) rfl
  exact (z_s1 (z_ret (z_cmp (in_ok rfl hr.units false) (z_T (z_tup (z_cons (z_T (z_fn (min2_ok rfl) boot_min (by rfl) T.b.min (z_cons (z_o false 1) (z_cons (z_o false 2) z_nil)))) (z_cons (z_T (z_fn (max2_ok rfl) boot_max (by rfl) T.b.max (z_cons (z_o false 1) (z_cons (z_o false 2) z_nil)))) z_nil)))) (z_T (z_lc [("tie", 3)] hio rfl hN (z_seq rfl (z_ix (z_o true 0) (z_K z_int))) (fun _ _ _ _ _ => (z_gn (vs := [3]) 3 hio hN)) (fun _ _ _ _ _ => z_ptsnil) (fun _ _ _ _ _ => (z_ty tuple_ok boot_tuple (by rfl) T.b.tuple (z_cons (z_o true 3) z_nil))))))))
/-! as_stand: 0=stand 1=part -/
theorem scas_stand : FnScope ["stand", "part"] ["stand"] (defScope (top 6)) := ⟨rfl, rfl, rfl, by decide +kernel, rfl, by decide +kernel, by decide +kernel⟩
theorem cas_stand (T : Top P w G mg base) : CalZ P w G mg base 1 "as_stand" 0 fas_stand := by
  refine calM (k := 0) (m := mas_stand) T.das_stand scas_stand (by decide) (fun B ios f cdv A outer s H E hio hr tkp => have hN := scas_stand.nd;  ?_) rfl
  exact (z_s1 (z_ret (z_ty tuple_ok boot_tuple (by rfl) T.b.tuple (z_cons (z_K (z_lc [("part", 1)] hio rfl hN (z_seq rfl (z_v 0)) (fun _ _ _ _ _ => (z_gn (vs := [1]) 1 hio hN)) (fun _ _ _ _ _ => z_ptsnil) (fun _ _ _ _ _ => (z_ty tuple_ok boot_tuple (by rfl) T.b.tuple (z_cons (z_o true 1) z_nil))))) z_nil))))
/-! place_of: 0=tree 1=name -/
theorem scplace_of : FnScope ["tree", "name"] ["tree", "name"] (defScope (top 7)) := ⟨rfl, rfl, rfl, by decide +kernel, rfl, by decide +kernel, by decide +kernel⟩
theorem cplace_of (T : Top P w G mg base) : CalZ P w G mg base 1 "place_of" 0 fplace_of := by
  refine calM (k := 0) (m := mplace_of) T.dplace_of scplace_of (by decide) (fun B ios f cdv A outer s H E hio hr tkp => have hN := scplace_of.nd;  ?_) rfl
  exact (z_s1 (z_ret (z_index rfl (z_T (z_ty list_ok boot_list (by rfl) T.b.list (z_cons (z_K (z_ix (z_o true 0) (z_K z_int))) z_nil))) (z_cons (z_o false 1) z_nil))))
/-! look_saying: 0=tree 1=saying 2=teller 3=hearer -/
theorem sclook_saying : FnScope ["tree", "saying", "teller", "hearer"] ["tree", "saying"] (defScope (top 8)) := ⟨rfl, rfl, rfl, by decide +kernel, rfl, by decide +kernel, by decide +kernel⟩
theorem clook_saying (T : Top P w G mg base) : CalZ P w G mg base 3 "look_saying" 0 flook_saying := by
  refine calM (k := 2) (m := mlook_saying) T.dlook_saying sclook_saying (by decide) (fun B ios f cdv A outer s H E hio hr tkp => have hN := sclook_saying.nd;  ?_) rfl
  exact (z_sc (z_asg (z_v 1) (z_gt rfl (z_gcons (z_gn (vs := [2, 3]) 2 hio hN) (z_gcons (z_gn (vs := [2, 3]) 3 hio hN) z_gnil)) (hlen := (len_consT (len_consT len_nilT)))))
    (z_s1 (z_if (z_tnot (z_t (z_c0 (cis_tied T) rfl hr (z_cons (z_o false 0) (z_cons (z_o false 2) (z_cons (z_o false 3) z_nil))) (by omega)))) (z_s1 (z_raise (P := P) (w := w) (mg := mg) (base := base) tkp.tk rfl T.rNoTie rfl hr (by omega) (z_v 1))) z_snil)))
/-! joined: 0=one 1=other 2=found 3=word -/
theorem scjoined : FnScope ["one", "other", "found", "word"] ["one", "other"] (defScope (top 9)) := ⟨rfl, rfl, rfl, by decide +kernel, rfl, by decide +kernel, by decide +kernel⟩
theorem cjoined (T : Top P w G mg base) : CalZ P w G mg base 1 "joined" 0 fjoined := by
  refine calM (k := 0) (m := mjoined) T.djoined scjoined (by decide) (fun B ios f cdv A outer s H E hio hr tkp => have hN := scjoined.nd;  ?_) rfl
  exact (z_sc (z_set 2 hio (z_ty list_ok boot_list (by rfl) T.b.list (z_cons (z_o true 0) z_nil)) hN)
    (z_sc (z_for tkp.hp rfl (z_seq rfl (z_v 1)) (z_gn (vs := [3]) 3 hio hN) (z_s1 (z_if (z_tcmp (in_ok rfl hr.units true) (z_o false 3) (z_o false 2)) (z_s1 (z_expr (z_append 2 rfl (z_cons (z_T (z_v 3)) z_nil)))) z_snil)))
    (z_s1 (z_ret (z_ty tuple_ok boot_tuple (by rfl) T.b.tuple (z_cons (z_o true 2) z_nil))))))
/-! heard: 0=tree 1=lists 2=saying 3=teller 4=hearer 5=spot 6=found -/
theorem scheard : FnScope ["tree", "lists", "saying", "teller", "hearer", "spot", "found"] ["tree", "lists", "saying"] (defScope (top 10)) := ⟨rfl, rfl, rfl, by decide +kernel, rfl, by decide +kernel, by decide +kernel⟩
theorem cheard (T : Top P w G mg base) : CalZ P w G mg base 4 "heard" 0 fheard := by
  refine calM (k := 3) (m := mheard) T.dheard scheard (by decide) (fun B ios f cdv A outer s H E hio hr tkp => have hN := scheard.nd;  ?_) rfl
  exact (z_sc (z_expr (z_cx tkp.tk (clook_saying T) rfl hr (z_cons (z_o false 0) (z_cons (z_o false 2) z_nil)) (by omega)))
    (z_sc (z_asg (z_v 2) (z_gt rfl (z_gcons (z_gn (vs := [3, 4]) 3 hio hN) (z_gcons (z_gn (vs := [3, 4]) 4 hio hN) z_gnil)) (hlen := (len_consT (len_consT len_nilT)))))
    (z_sc (z_par 5 6 hio rfl hN (z_cons (z_T (z_c0 (cplace_of T) rfl hr (z_cons (z_o false 0) (z_cons (z_o false 4) z_nil)) (by omega))) (z_cons (z_T (z_ty list_ok boot_list (by rfl) T.b.list (z_cons (z_K (z_c0 (cas_stand T) rfl hr (z_cons (z_o false 1) z_nil) (by omega))) z_nil))) z_nil)))
    (z_sc (z_asg (z_c0 (cjoined T) rfl hr (z_cons (z_T (z_ix (z_o true 6) (z_o true 5))) (z_cons (z_T (z_ix (z_o true 6) (z_K (z_c0 (cplace_of T) rfl hr (z_cons (z_o false 0) (z_cons (z_o false 3) z_nil)) (by omega))))) z_nil)) (by omega)) (z_gs (vs := []) 6 (z_o false 5)))
    (z_s1 (z_ret (z_ty tuple_ok boot_tuple (by rfl) T.b.tuple (z_cons (z_o true 6) z_nil))))))))
/-! done: 0=tree 1=stand 2=row 3=here 4=saying -/
theorem scdone : FnScope ["tree", "stand", "row", "here", "saying"] ["tree", "stand", "row"] (defScope (top 11)) := ⟨rfl, rfl, rfl, by decide +kernel, rfl, by decide +kernel, by decide +kernel⟩
theorem cdone (T : Top P w G mg base) : CalZ P w G mg base 5 "done" 0 fdone := by
  refine calM (k := 4) (m := mdone) T.ddone scdone (by decide) (fun B ios f cdv A outer s H E hio hr tkp => have hN := scdone.nd;  ?_) rfl
  exact (z_sc (z_set 3 hio (z_c0 (cas_stand T) rfl hr (z_cons (z_o false 1) z_nil) (by omega)) hN)
    (z_sc (z_for tkp.hp rfl (z_seq rfl (z_v 2)) (z_gn (vs := [4]) 4 hio hN) (z_s1 (z_set 3 hio (z_cx tkp.tk (cheard T) rfl hr (z_cons (z_o false 0) (z_cons (z_o false 3) (z_cons (z_o false 4) z_nil))) (by omega)) hN)))
    (z_s1 (z_retv 3))))
/-! idle_in: 0=tree 1=stand 2=row 3=here 4=found 5=place 6=saying 7=later -/
theorem scidle_in : FnScope ["tree", "stand", "row", "here", "found", "place", "saying", "later"] ["tree", "stand", "row"] (defScope (top 12)) := ⟨rfl, rfl, rfl, by decide +kernel, rfl, by decide +kernel, by decide +kernel⟩
theorem cidle_in (T : Top P w G mg base) : CalZ P w G mg base 5 "idle_in" 0 fidle_in := by
  refine calM (k := 4) (m := midle_in) T.didle_in scidle_in (by decide) (fun B ios f cdv A outer s H E hio hr tkp => have hN := scidle_in.nd;  ?_) rfl
  exact (z_sc (z_par 3 4 hio rfl hN (z_cons (z_T (z_c0 (cas_stand T) rfl hr (z_cons (z_o false 1) z_nil) (by omega))) (z_cons (z_T (z_lst z_nil)) z_nil)))
    (z_sc (z_for tkp.hp rfl (z_enum (by rfl) T.b.enumerate (z_cons (z_K (z_v 2)) z_nil)) (z_gt rfl (z_gcons (z_gn (vs := [5, 6]) 5 hio hN) (z_gcons (z_gn (vs := [5, 6]) 6 hio hN) z_gnil)) (hlen := (len_consT (len_consT len_nilT)))) (z_sc (z_set 7 hio (z_cx tkp.tk (cheard T) rfl hr (z_cons (z_o false 0) (z_cons (z_o false 3) (z_cons (z_o false 6) z_nil))) (by omega)) hN)
    (z_sc (z_if (z_tcmp (eq_ok rfl hr.units) (z_o false 7) (z_o false 3)) (z_s1 (z_expr (z_append 4 rfl (z_cons (z_T (z_v 5)) z_nil)))) z_snil)
    (z_s1 (z_set 3 hio (z_v 7) hN)))))
    (z_s1 (z_retv 4))))
/-! _law_box: 0=_law_script 1=_law_k 2=_law_cell -/
theorem sc_law_box : FnScope ["_law_script", "_law_k", "_law_cell"] ["_law_script", "_law_k"] (defScope (top 14)) := ⟨rfl, rfl, rfl, by decide +kernel, rfl, by decide +kernel, by decide +kernel⟩
theorem c_law_box (T : Top P w G mg base) : CalZ P w G mg base 1 "_law_box" 0 f_law_box := by
  refine calM (k := 0) (m := m_law_box) T.d_law_box sc_law_box (by decide) (fun B ios f cdv A outer s H E hio hr tkp => have hN := sc_law_box.nd;  ?_) rfl
  exact (z_sc (z_set 2 hio (z_ife (z_tcmp (lt_ok rfl hr.units) (z_o false 1) (z_T (z_fn (len_ok rfl) boot_len (by rfl) T.b.len (z_cons (z_o false 0) z_nil)))) (z_ix (z_o true 0) (z_o true 1)) z_int) hN)
    (z_s1 (z_ret (z_lst (z_cons (z_T (z_bin mul_ok (z_K (z_fn abs_ok boot_abs (by rfl) T.b.abs (z_cons (z_o false 2) z_nil))) (z_K (z_ty int_ok boot_int (by rfl) T.b.int (z_cons (z_T (z_cmp (ge_ok rfl hr.units) (z_T (z_fn abs_ok boot_abs (by rfl) T.b.abs (z_cons (z_o false 2) z_nil))) (z_T (z_bin pow_ok (z_T z_int) (z_T z_int))))) z_nil))))) (z_cons (z_T (z_bin mod_ok (z_T (z_bin mul_ok (z_K (z_bin (add_ok rfl) (z_K (z_bin (add_ok rfl) (z_K (z_bin mod_ok (z_o false 2) (z_T z_int))) (z_K (z_bin mul_ok (z_K z_int) (z_o true 1))))) (z_K z_int))) (z_K z_int))) (z_T z_int))) (z_cons (z_T z_int) z_nil)))))))
/-! _law_take: 0=_law_box_here 1=_law_size 2=_law_found 3=_law_step 4=_law_once 5=_law_twice -/
theorem sc_law_take : FnScope ["_law_box_here", "_law_size", "_law_found", "_law_step", "_law_once", "_law_twice"] ["_law_box_here", "_law_size"] (defScope (top 15)) := ⟨rfl, rfl, rfl, by decide +kernel, rfl, by decide +kernel, by decide +kernel⟩
theorem c_law_take (T : Top P w G mg base) : ∀ n : Nat, CalZ P w G mg base (0 + n) "_law_take" 1 (f_law_take n)
  | 0 => (calZ0 T.d_law_take).mono (Nat.zero_le _)
  | n + 1 => have C : CalZ P w G mg base (0 + n) "_law_take" 1 (f_law_take n) := c_law_take T n; by
    refine calM (k := 0 + n) (m := m_law_take (f_law_take n)) T.d_law_take sc_law_take (by decide) (fun B ios f cdv A outer s H E hio hr tkp => have hN := sc_law_take.nd;  ?_) rfl
    exact (z_sc (z_if (z_tcmp (gt_ok rfl hr.units) (z_T (z_ix (z_o true 0) (z_K z_int))) (z_T z_int)) (z_sc (z_asg (z_fn divmod_ok boot_divmod (by rfl) T.b.divmod (z_cons (z_T (z_ix (z_o true 0) (z_K z_int))) (z_cons (z_o false 1) z_nil))) (z_gt rfl (z_gcons (z_gs (vs := [2]) 0 (z_T z_int)) (z_gcons (z_gn (vs := [2]) 2 hio hN) z_gnil)) (hlen := (len_consT (len_consT len_nilT)))))
    (z_s1 (z_retv 2))) z_snil)
    (z_sc (z_if (z_tcmp (gt_ok rfl hr.units) (z_o false 1) (z_T (z_bin pow_ok (z_T z_int) (z_T z_int)))) (z_s1 (z_ret (z_bin mod_ok (z_T (z_bin (add_ok rfl) (z_K (z_c1 C rfl hr (z_cons (z_o false 0) (z_cons (z_T (z_bin pow_ok (z_T z_int) (z_T z_int))) z_nil)) (by omega))) (z_K (z_bin mul_ok (z_K (z_bin pow_ok (z_T z_int) (z_T z_int))) (z_K (z_c1 C rfl hr (z_cons (z_o false 0) (z_cons (z_T (z_bin (add_ok rfl) (z_K (z_bin fdiv_ok (z_T (z_bin sub_ok (z_o false 1) (z_T z_int))) (z_T (z_bin pow_ok (z_T z_int) (z_T z_int))))) (z_K z_int))) z_nil)) (by omega))))))) (z_o false 1)))) z_snil)
    (z_sc (z_asg (z_bin (add_ok rfl) (z_K (z_ix (z_o true 0) (z_K z_int))) (z_K z_int)) (z_gs (vs := []) 0 (z_T z_int)))
    (z_sc (z_set 3 hio (z_bin (add_ok rfl) (z_K z_int) (z_K (z_bin mul_ok (z_K (z_ix (z_o true 0) (z_K z_int))) (z_K (z_ix (z_o true 0) (z_K z_int)))))) hN)
    (z_sc (z_set 4 hio (z_bin mod_ok (z_T (z_bin mul_ok (z_K (z_bin (add_ok rfl) (z_K (z_ix (z_o true 0) (z_K z_int))) (z_K (z_bin mul_ok (z_K z_int) (z_K (z_ix (z_o true 0) (z_K z_int))))))) (z_o true 3))) (z_T z_int)) hN)
    (z_sc (z_set 5 hio (z_bin mod_ok (z_T (z_bin (add_ok rfl) (z_K (z_bin mul_ok (z_o true 4) (z_K (z_bin (add_ok rfl) (z_K (z_bin mod_ok (z_o false 4) (z_T z_int))) (z_K z_int))))) (z_K (z_ix (z_o true 0) (z_K z_int))))) (z_T z_int)) hN)
    (z_s1 (z_ret (z_bin mod_ok (z_T (z_bin fdiv_ok (z_T (z_bin mod_ok (z_T (z_bin mul_ok (z_o true 5) (z_K (z_bin (add_ok rfl) (z_K (z_bin mod_ok (z_o false 5) (z_T z_int))) (z_K z_int))))) (z_T z_int))) (z_T z_int))) (z_o false 1))))))))))
/-! _law_folded: 0=_law_script 1=_law_size 2=_law_cells 3=_law_k 4=_law_cell -/
theorem sc_law_folded : FnScope ["_law_script", "_law_size", "_law_cells", "_law_k", "_law_cell"] ["_law_script", "_law_size"] (defScope (top 16)) := ⟨rfl, rfl, rfl, by decide +kernel, rfl, by decide +kernel, by decide +kernel⟩
theorem c_law_folded (T : Top P w G mg base) : CalZ P w G mg base 1 "_law_folded" 0 f_law_folded := by
  refine calM (k := 0) (m := m_law_folded) T.d_law_folded sc_law_folded (by decide) (fun B ios f cdv A outer s H E hio hr tkp => have hN := sc_law_folded.nd;  ?_) rfl
  exact (z_sc (z_set 2 hio (z_ty list_ok boot_list (by rfl) T.b.list (z_cons (z_K (z_slc rfl (z_o true 0) z_no (z_bd (z_o false 1)))) z_nil)) hN)
    (z_sc (z_for tkp.hp rfl (z_enum (by rfl) T.b.enumerate (z_cons (z_K (z_slc rfl (z_o true 0) (z_bd (z_o false 1)) (z_bd (z_T z_int)))) z_nil)) (z_gt rfl (z_gcons (z_gn (vs := [3, 4]) 3 hio hN) (z_gcons (z_gn (vs := [3, 4]) 4 hio hN) z_gnil)) (hlen := (len_consT (len_consT len_nilT)))) (z_s1 (z_asg (z_bin (add_ok rfl) (z_K (z_ix (z_o true 2) (z_K (z_bin mod_ok (z_o false 3) (z_o false 1))))) (z_K (z_bin mul_ok (z_o true 4) (z_K (z_bin (add_ok rfl) (z_o true 3) (z_K z_int)))))) (z_gs (vs := []) 2 (z_T (z_bin mod_ok (z_o false 3) (z_o false 1)))))))
    (z_s1 (z_retv 2))))
/-! _law_same: 0=_law_found 1=_law_due 2=_law_mine 3=_law_its -/
theorem sc_law_same : FnScope ["_law_found", "_law_due", "_law_mine", "_law_its"] ["_law_found", "_law_due"] (defScope (top 17)) := ⟨rfl, rfl, rfl, by decide +kernel, rfl, by decide +kernel, by decide +kernel⟩
theorem c_law_same (T : Top P w G mg base) : ∀ n : Nat, CalZ P w G mg base (0 + n) "_law_same" 0 (f_law_same n)
  | 0 => (calZ0 T.d_law_same).mono (Nat.zero_le _)
  | n + 1 => have C : CalZ P w G mg base (0 + n) "_law_same" 0 (f_law_same n) := c_law_same T n; by
    refine calM (k := 0 + n) (m := m_law_same (f_law_same n)) T.d_law_same sc_law_same (by decide) (fun B ios f cdv A outer s H E hio hr tkp => have hN := sc_law_same.nd;  ?_) rfl
    exact (z_sc (z_if (z_t (z_fn isi_ok boot_isinstance (by rfl) T.b.isinstance (z_cons (z_o false 1) (z_cons (z_T (z_tup (z_cons (z_T (z_cl boot_list (by rfl) T.b.list)) (z_cons (z_T (z_cl boot_tuple (by rfl) T.b.tuple)) z_nil)))) z_nil)))) (z_sc (z_if (z_w (z_wor (z_tcmp (ne_ok rfl hr.units) (z_T (z_fn isi_ok boot_isinstance (by rfl) T.b.isinstance (z_cons (z_o false 0) (z_cons (z_T (z_cl boot_list (by rfl) T.b.list)) z_nil)))) (z_T (z_fn isi_ok boot_isinstance (by rfl) T.b.isinstance (z_cons (z_o false 1) (z_cons (z_T (z_cl boot_list (by rfl) T.b.list)) z_nil))))) (z_wor1 (z_tcmp (ne_ok rfl hr.units) (z_T (z_fn isi_ok boot_isinstance (by rfl) T.b.isinstance (z_cons (z_o false 0) (z_cons (z_T (z_cl boot_tuple (by rfl) T.b.tuple)) z_nil)))) (z_T (z_fn isi_ok boot_isinstance (by rfl) T.b.isinstance (z_cons (z_o false 1) (z_cons (z_T (z_cl boot_tuple (by rfl) T.b.tuple)) z_nil)))))))) (z_s1 (z_ret z_bl)) z_snil)
    (z_s1 (z_ret (z_and (z_cmp (eq_ok rfl hr.units) (z_T (z_fn (len_ok rfl) boot_len (by rfl) T.b.len (z_cons (z_o false 0) z_nil))) (z_T (z_fn (len_ok rfl) boot_len (by rfl) T.b.len (z_cons (z_o false 1) z_nil)))) (z_one (z_fn (all_ok rfl) boot_all (by rfl) T.b.all (z_cons (z_T (z_lc [("_law_mine", 2), ("_law_its", 3)] hio rfl hN (z_zip (by rfl) T.b.zip (z_cons (z_K (z_v 0)) (z_cons (z_K (z_v 1)) z_nil))) (fun _ _ _ _ _ => (z_gt rfl (z_gcons (z_gn (vs := [2, 3]) 2 hio hN) (z_gcons (z_gn (vs := [2, 3]) 3 hio hN) z_gnil)) (hlen := (len_consT (len_consT len_nilT))))) (fun _ _ _ _ _ => z_ptsnil) (fun _ _ _ _ _ => (z_c0 C rfl hr (z_cons (z_o false 2) (z_cons (z_o false 3) z_nil)) (by omega))))) z_nil))))))) z_snil)
    (z_sc (z_if (z_w (z_wor (z_tcmp is_ok (z_o false 1) (z_T z_non)) (z_wor1 (z_t (z_fn isi_ok boot_isinstance (by rfl) T.b.isinstance (z_cons (z_o false 1) (z_cons (z_T (z_cl boot_str (by rfl) T.b.str)) z_nil))))))) (z_s1 (z_ret (z_and (z_cmp (eq_ok rfl hr.units) (z_o false 0) (z_o false 1)) (z_one (z_cmp (eq_ok rfl hr.units) (z_T (z_fn isi_ok boot_isinstance (by rfl) T.b.isinstance (z_cons (z_o false 0) (z_cons (z_T (z_cl boot_str (by rfl) T.b.str)) z_nil)))) (z_T (z_fn isi_ok boot_isinstance (by rfl) T.b.isinstance (z_cons (z_o false 1) (z_cons (z_T (z_cl boot_str (by rfl) T.b.str)) z_nil))))))))) z_snil)
    (z_s1 (z_ret (z_and (z_fn isi_ok boot_isinstance (by rfl) T.b.isinstance (z_cons (z_o false 0) (z_cons (z_T (z_cl boot_int (by rfl) T.b.int)) z_nil))) (z_and (z_cmp (eq_ok rfl hr.units) (z_T (z_fn isi_ok boot_isinstance (by rfl) T.b.isinstance (z_cons (z_o false 0) (z_cons (z_T (z_cl boot_bool (by rfl) T.b.bool)) z_nil)))) (z_T (z_fn isi_ok boot_isinstance (by rfl) T.b.isinstance (z_cons (z_o false 1) (z_cons (z_T (z_cl boot_bool (by rfl) T.b.bool)) z_nil))))) (z_one (z_cmp (eq_ok rfl hr.units) (z_o false 0) (z_o false 1)))))))))
/-! _law_of: 0=_law_box_here 1=_law_some -/
theorem sc_law_of : FnScope ["_law_box_here", "_law_some"] ["_law_box_here", "_law_some"] (defScope (top 18)) := ⟨rfl, rfl, rfl, by decide +kernel, rfl, by decide +kernel, by decide +kernel⟩
theorem c_law_of (T : Top P w G mg base) : CalZ P w G mg base 13 "_law_of" 1 f_law_of := by
  refine calM (k := 12) (m := m_law_of) T.d_law_of sc_law_of (by decide) (fun B ios f cdv A outer s H E hio hr tkp => have hN := sc_law_of.nd;  ?_) rfl
  exact (z_s1 (z_ret (z_ix (z_o true 1) (z_K (z_c1 (c_law_take T 12) rfl hr (z_cons (z_o false 0) (z_cons (z_T (z_fn (len_ok rfl) boot_len (by rfl) T.b.len (z_cons (z_o false 1) z_nil))) z_nil)) (by omega))))))
/-! _law_strewn: 0=_law_box_here 1=_law_some 2=_law_left 3=_law_found -/
theorem sc_law_strewn : FnScope ["_law_box_here", "_law_some", "_law_left", "_law_found"] ["_law_box_here", "_law_some"] (defScope (top 19)) := ⟨rfl, rfl, rfl, by decide +kernel, rfl, by decide +kernel, by decide +kernel⟩
theorem c_law_strewn (T : Top P w G mg base) : CalZ P w G mg base 13 "_law_strewn" 1 f_law_strewn := by
  refine calM (k := 12) (m := m_law_strewn) T.d_law_strewn sc_law_strewn (by decide) (fun B ios f cdv A outer s H E hio hr tkp => have hN := sc_law_strewn.nd;  ?_) rfl
  exact (z_sc (z_par 2 3 hio rfl hN (z_cons (z_T (z_ty list_ok boot_list (by rfl) T.b.list (z_cons (z_o true 1) z_nil))) (z_cons (z_T (z_lst z_nil)) z_nil)))
    (z_sc (z_while 100000 tkp.hp (z_tcmp (ne_ok rfl hr.units) (z_o false 2) (z_T (z_lst z_nil))) (z_s1 (z_expr (z_append 3 rfl (z_cons (z_T (z_popAt 2 rfl (z_cons (z_T (z_c1 (c_law_take T 12) rfl hr (z_cons (z_o false 0) (z_cons (z_T (z_fn (len_ok rfl) boot_len (by rfl) T.b.len (z_cons (z_o false 2) z_nil))) z_nil)) (by omega))) z_nil))) z_nil)))))
    (z_s1 (z_retv 3))))
/-! _law_names: 0=_law_box_here 1=_law_much 2=_law_letters 3=_law_first 4=_law_found 5=_law_stem 6=_law_turn 7=_law_step 8=_law_longer 9=_law_k 10=_law_sign -/
theorem sc_law_names : FnScope ["_law_box_here", "_law_much", "_law_letters", "_law_first", "_law_found", "_law_stem", "_law_turn", "_law_step", "_law_longer", "_law_k", "_law_sign"] ["_law_box_here", "_law_much"] (defScope (top 20)) := ⟨rfl, rfl, rfl, by decide +kernel, rfl, by decide +kernel, by decide +kernel⟩
theorem c_law_names (T : Top P w G mg base) : CalZ P w G mg base 13 "_law_names" 1 f_law_names := by
  refine calM (k := 12) (m := m_law_names) T.d_law_names sc_law_names (by decide) (fun B ios f cdv A outer s H E hio hr tkp => have hN := sc_law_names.nd;  ?_) rfl
  exact (z_sc (z_asg (z_tup (z_cons (z_T z_str) (z_cons (z_T (z_c1 (c_law_take T 12) rfl hr (z_cons (z_o false 0) (z_cons (z_T z_int) z_nil)) (by omega))) (z_cons (z_T (z_lst z_nil)) z_nil)))) (z_gt rfl (z_gcons (z_gn (vs := [2, 3, 4]) 2 hio hN) (z_gcons (z_gn (vs := [2, 3, 4]) 3 hio hN) (z_gcons (z_gn (vs := [2, 3, 4]) 4 hio hN) z_gnil))) (hlen := (len_consT (len_consT (len_consT len_nilT))))))
    (z_sc (z_set 5 hio (z_join rfl (z_T z_str) (z_cons (z_T (z_lc [("_law_turn", 6)] hio rfl hN (z_range1 (by rfl) T.b.range (z_cons (z_T (z_c1 (c_law_take T 12) rfl hr (z_cons (z_o false 0) (z_cons (z_T z_int) z_nil)) (by omega))) z_nil)) (fun _ _ _ _ _ => (z_gn (vs := [6]) 6 hio hN)) (fun _ _ _ _ _ => z_ptsnil) (fun _ _ _ _ _ => (z_ix (z_o true 2) (z_K (z_c1 (c_law_take T 12) rfl hr (z_cons (z_o false 0) (z_cons (z_T z_int) z_nil)) (by omega))))))) z_nil)) hN)
    (z_sc (z_par 7 8 hio rfl hN (z_cons (z_T (z_ix (z_K (z_lst (z_cons (z_T z_int) (z_cons (z_T z_int) (z_cons (z_T z_int) z_nil))))) (z_K (z_c1 (c_law_take T 12) rfl hr (z_cons (z_o false 0) (z_cons (z_T z_int) z_nil)) (by omega))))) (z_cons (z_T (z_c1 (c_law_take T 12) rfl hr (z_cons (z_o false 0) (z_cons (z_T z_int) z_nil)) (by omega))) z_nil)))
    (z_sc (z_for tkp.hp rfl (z_range1 (by rfl) T.b.range (z_cons (z_o false 1) z_nil)) (z_gn (vs := [9]) 9 hio hN) (z_sc (z_set 10 hio (z_ix (z_o true 2) (z_K (z_bin mod_ok (z_T (z_bin (add_ok rfl) (z_o true 3) (z_K (z_bin mul_ok (z_o true 7) (z_K (z_ife (z_tcmp (eq_ok rfl hr.units) (z_o false 8) (z_T z_int)) (z_bin fdiv_ok (z_o false 9) (z_T z_int)) (z_v 9))))))) (z_T z_int)))) hN)
    (z_s1 (z_expr (z_append 4 rfl (z_cons (z_T (z_bin (add_ok rfl) (z_K (z_bin (add_ok rfl) (z_o true 5) (z_o true 10))) (z_K (z_bin mul_ok (z_K z_str) (z_K (z_ty int_ok boot_int (by rfl) T.b.int (z_cons (z_T (z_and (z_cmp (eq_ok rfl hr.units) (z_o false 8) (z_T z_int)) (z_one (z_cmp (eq_ok rfl hr.units) (z_T (z_bin mod_ok (z_o false 9) (z_T z_int))) (z_T z_int))))) z_nil))))))) z_nil))))))
    (z_s1 (z_retv 4))))))
/-! _law_tree: 0=_law_box_here 1=_law_low 2=_law_high 3=_law_much 4=_law_mode 5=_law_ties 6=_law_folk 7=_law_k 8=_law_its -/
theorem sc_law_tree : FnScope ["_law_box_here", "_law_low", "_law_high", "_law_much", "_law_mode", "_law_ties", "_law_folk", "_law_k", "_law_its"] ["_law_box_here", "_law_low", "_law_high"] (defScope (top 21)) := ⟨rfl, rfl, rfl, by decide +kernel, rfl, by decide +kernel, by decide +kernel⟩
theorem c_law_tree (T : Top P w G mg base) : CalZ P w G mg base 14 "_law_tree" 1 f_law_tree := by
  refine calM (k := 13) (m := m_law_tree) T.d_law_tree sc_law_tree (by decide) (fun B ios f cdv A outer s H E hio hr tkp => have hN := sc_law_tree.nd;  ?_) rfl
  exact (z_sc (z_par3 3 4 5 hio rfl hN (z_cons (z_T (z_bin (add_ok rfl) (z_o true 1) (z_K (z_c1 (c_law_take T 12) rfl hr (z_cons (z_o false 0) (z_cons (z_T (z_bin (add_ok rfl) (z_K (z_bin sub_ok (z_o false 2) (z_o false 1))) (z_K z_int))) z_nil)) (by omega))))) (z_cons (z_T (z_c1 (c_law_take T 12) rfl hr (z_cons (z_o false 0) (z_cons (z_T z_int) z_nil)) (by omega))) (z_cons (z_T (z_lst z_nil)) z_nil))))
    (z_sc (z_set 6 hio (z_c1 (c_law_strewn T) rfl hr (z_cons (z_o false 0) (z_cons (z_T (z_c1 (c_law_names T) rfl hr (z_cons (z_o false 0) (z_cons (z_o false 3) z_nil)) (by omega))) z_nil)) (by omega)) hN)
    (z_sc (z_for tkp.hp rfl (z_range2 (by rfl) T.b.range (z_cons (z_T z_int) (z_cons (z_o false 3) z_nil))) (z_gn (vs := [7]) 7 hio hN) (z_sc (z_set 8 hio (z_ix (z_o true 6) (z_K (z_ix (z_K (z_lst (z_cons (z_T (z_bin sub_ok (z_o false 7) (z_T z_int))) (z_cons (z_T z_int) (z_cons (z_T (z_c1 (c_law_take T 12) rfl hr (z_cons (z_o false 0) (z_cons (z_o false 7) z_nil)) (by omega))) (z_cons (z_T (z_fn (max2_ok rfl) boot_max (by rfl) T.b.max (z_cons (z_T z_int) (z_cons (z_T (z_bin sub_ok (z_T (z_bin sub_ok (z_o false 7) (z_T z_int))) (z_T (z_c1 (c_law_take T 12) rfl hr (z_cons (z_o false 0) (z_cons (z_T z_int) z_nil)) (by omega))))) z_nil)))) z_nil)))))) (z_o true 4)))) hN)
    (z_s1 (z_expr (z_append 5 rfl (z_cons (z_T (z_tup (z_cons (z_T (z_fn (min2_ok rfl) boot_min (by rfl) T.b.min (z_cons (z_T (z_ix (z_o true 6) (z_o true 7))) (z_cons (z_o false 8) z_nil)))) (z_cons (z_T (z_fn (max2_ok rfl) boot_max (by rfl) T.b.max (z_cons (z_T (z_ix (z_o true 6) (z_o true 7))) (z_cons (z_o false 8) z_nil)))) z_nil)))) z_nil))))))
    (z_s1 (z_ret (z_tup (z_cons (z_T (z_ty tuple_ok boot_tuple (by rfl) T.b.tuple (z_cons (z_K (z_fn (sorted_ok rfl hr.units) boot_sorted (by rfl) T.b.sorted (z_cons (z_o true 6) z_nil))) z_nil))) (z_cons (z_T (z_ty tuple_ok boot_tuple (by rfl) T.b.tuple (z_cons (z_K (z_fn (sorted_ok rfl hr.units) boot_sorted (by rfl) T.b.sorted (z_cons (z_o true 5) z_nil))) z_nil))) z_nil))))))))
/-! _law_tied: 0=_law_wood 1=_law_mine 2=_law_its -/
theorem sc_law_tied : FnScope ["_law_wood", "_law_mine", "_law_its"] ["_law_wood", "_law_mine", "_law_its"] (defScope (top 22)) := ⟨rfl, rfl, rfl, by decide +kernel, rfl, by decide +kernel, by decide +kernel⟩
theorem c_law_tied (T : Top P w G mg base) : CalZ P w G mg base 1 "_law_tied" 0 f_law_tied := by
  refine calM (k := 0) (m := m_law_tied) T.d_law_tied sc_law_tied (by decide) (fun B ios f cdv A outer s H E hio hr tkp => have hN := sc_law_tied.nd;  ?_) rfl
  exact (z_s1 (z_ret (z_cmp (in_ok rfl hr.units false) (z_T (z_tup (z_cons (z_T (z_fn (min2_ok rfl) boot_min (by rfl) T.b.min (z_cons (z_o false 1) (z_cons (z_o false 2) z_nil)))) (z_cons (z_T (z_fn (max2_ok rfl) boot_max (by rfl) T.b.max (z_cons (z_o false 1) (z_cons (z_o false 2) z_nil)))) z_nil)))) (z_T (z_ix (z_o true 0) (z_K z_int))))))
/-! _law_spoke: 0=_law_wood 1=_law_heaps 2=_law_pair 3=_law_teller 4=_law_hearer 5=_law_whom 6=_law_found 7=_law_more 8=_law_word -/
theorem sc_law_spoke : FnScope ["_law_wood", "_law_heaps", "_law_pair", "_law_teller", "_law_hearer", "_law_whom", "_law_found", "_law_more", "_law_word"] ["_law_wood", "_law_heaps", "_law_pair"] (defScope (top 23)) := ⟨rfl, rfl, rfl, by decide +kernel, rfl, by decide +kernel, by decide +kernel⟩
theorem c_law_spoke (T : Top P w G mg base) : CalZ P w G mg base 1 "_law_spoke" 0 f_law_spoke := by
  refine calM (k := 0) (m := m_law_spoke) T.d_law_spoke sc_law_spoke (by decide) (fun B ios f cdv A outer s H E hio hr tkp => have hN := sc_law_spoke.nd;  ?_) rfl
  exact (z_sc (z_asg (z_lc [("_law_whom", 5)] hio rfl hN (z_seq rfl (z_v 2)) (fun _ _ _ _ _ => (z_gn (vs := [5]) 5 hio hN)) (fun _ _ _ _ _ => z_ptsnil) (fun _ _ _ _ _ => (z_index rfl (z_T (z_ty list_ok boot_list (by rfl) T.b.list (z_cons (z_K (z_ix (z_o true 0) (z_K z_int))) z_nil))) (z_cons (z_o false 5) z_nil)))) (z_gt rfl (z_gcons (z_gn (vs := [3, 4]) 3 hio hN) (z_gcons (z_gn (vs := [3, 4]) 4 hio hN) z_gnil)) (hlen := (len_consT (len_consT len_nilT)))))
    (z_sc (z_set 6 hio (z_ty list_ok boot_list (by rfl) T.b.list (z_cons (z_o true 1) z_nil)) hN)
    (z_sc (z_setLc 7 [("_law_word", 8)] hio rfl hN (z_seq rfl (z_ix (z_o true 1) (z_o true 3))) (fun _ _ _ _ _ => (z_gn (vs := [8]) 8 hio hN)) (fun _ _ _ _ _ => (z_pts1 (z_tcmp (in_ok rfl hr.units true) (z_o false 8) (z_T (z_ix (z_o true 1) (z_o true 4)))))) (fun _ _ _ _ _ => (z_v 8)))
    (z_sc (z_asg (z_bin (add_ok rfl) (z_K (z_ty tuple_ok boot_tuple (by rfl) T.b.tuple (z_cons (z_K (z_ix (z_o true 1) (z_o true 4))) z_nil))) (z_K (z_ty tuple_ok boot_tuple (by rfl) T.b.tuple (z_cons (z_o true 7) z_nil)))) (z_gs (vs := []) 6 (z_o false 4)))
    (z_s1 (z_ret (z_ty tuple_ok boot_tuple (by rfl) T.b.tuple (z_cons (z_o true 6) z_nil))))))))
/-! _law_own: 0=_law_wood 1=_law_whom -/
theorem sc_law_own : FnScope ["_law_wood", "_law_whom"] ["_law_wood"] (defScope (top 24)) := ⟨rfl, rfl, rfl, by decide +kernel, rfl, by decide +kernel, by decide +kernel⟩
theorem c_law_own (T : Top P w G mg base) : CalZ P w G mg base 1 "_law_own" 0 f_law_own := by
  refine calM (k := 0) (m := m_law_own) T.d_law_own sc_law_own (by decide) (fun B ios f cdv A outer s H E hio hr tkp => have hN := sc_law_own.nd;  ?_) rfl
  exact (z_s1 (z_ret (z_ty tuple_ok boot_tuple (by rfl) T.b.tuple (z_cons (z_K (z_lc [("_law_whom", 1)] hio rfl hN (z_seq rfl (z_ix (z_o true 0) (z_K z_int))) (fun _ _ _ _ _ => (z_gn (vs := [1]) 1 hio hN)) (fun _ _ _ _ _ => z_ptsnil) (fun _ _ _ _ _ => (z_tup (z_cons (z_T (z_v 1)) z_nil))))) z_nil))))
/-! _law_row: 0=_law_box_here 1=_law_wood 2=_law_much 3=_law_found 4=_law_turn 5=_law_tie -/
theorem sc_law_row : FnScope ["_law_box_here", "_law_wood", "_law_much", "_law_found", "_law_turn", "_law_tie"] ["_law_box_here", "_law_wood", "_law_much"] (defScope (top 25)) := ⟨rfl, rfl, rfl, by decide +kernel, rfl, by decide +kernel, by decide +kernel⟩
theorem c_law_row (T : Top P w G mg base) : CalZ P w G mg base 14 "_law_row" 1 f_law_row := by
  refine calM (k := 13) (m := m_law_row) T.d_law_row sc_law_row (by decide) (fun B ios f cdv A outer s H E hio hr tkp => have hN := sc_law_row.nd;  ?_) rfl
  exact (z_sc (z_set 3 hio (z_lst z_nil) hN)
    (z_sc (z_for tkp.hp rfl (z_range1 (by rfl) T.b.range (z_cons (z_T (z_bin mul_ok (z_o true 2) (z_K (z_ty int_ok boot_int (by rfl) T.b.int (z_cons (z_T (z_cmp (ne_ok rfl hr.units) (z_T (z_ix (z_o true 1) (z_K z_int))) (z_T (z_tup z_nil)))) z_nil))))) z_nil)) (z_gn (vs := [4]) 4 hio hN) (z_sc (z_set 5 hio (z_c1 (c_law_of T) rfl hr (z_cons (z_o false 0) (z_cons (z_T (z_ix (z_o true 1) (z_K z_int))) z_nil)) (by omega)) hN)
    (z_s1 (z_expr (z_append 3 rfl (z_cons (z_T (z_step (z_o true 5) (z_K (z_ix (z_K (z_lst (z_cons (z_T z_int) (z_cons (z_T (z_un neg_ok (z_T z_int))) z_nil)))) (z_K (z_c1 (c_law_take T 12) rfl hr (z_cons (z_o false 0) (z_cons (z_T z_int) z_nil)) (by omega))))))) z_nil))))))
    (z_s1 (z_retv 3))))
/-! _law_any_stand: 0=_law_box_here 1=_law_wood 2=_law_found 3=_law_whom 4=_law_rest 5=_law_its -/
theorem sc_law_any_stand : FnScope ["_law_box_here", "_law_wood", "_law_found", "_law_whom", "_law_rest", "_law_its"] ["_law_box_here", "_law_wood"] (defScope (top 26)) := ⟨rfl, rfl, rfl, by decide +kernel, rfl, by decide +kernel, by decide +kernel⟩
theorem c_law_any_stand (T : Top P w G mg base) : CalZ P w G mg base 14 "_law_any_stand" 1 f_law_any_stand := by
  refine calM (k := 13) (m := m_law_any_stand) T.d_law_any_stand sc_law_any_stand (by decide) (fun B ios f cdv A outer s H E hio hr tkp => have hN := sc_law_any_stand.nd;  ?_) rfl
  exact (z_sc (z_set 2 hio (z_lst z_nil) hN)
    (z_sc (z_for tkp.hp rfl (z_seq rfl (z_ix (z_o true 1) (z_K z_int))) (z_gn (vs := [3]) 3 hio hN) (z_sc (z_set 4 hio (z_c1 (c_law_strewn T) rfl hr (z_cons (z_o false 0) (z_cons (z_T (z_lc [("_law_its", 5)] hio rfl hN (z_seq rfl (z_ix (z_o true 1) (z_K z_int))) (fun _ _ _ _ _ => (z_gn (vs := [5]) 5 hio hN)) (fun _ _ _ _ _ => (z_pts1 (z_tcmp (ne_ok rfl hr.units) (z_o false 5) (z_o false 3)))) (fun _ _ _ _ _ => (z_v 5)))) z_nil)) (by omega)) hN)
    (z_s1 (z_expr (z_append 2 rfl (z_cons (z_T (z_bin (add_ok rfl) (z_K (z_tup (z_cons (z_T (z_v 3)) z_nil))) (z_K (z_ty tuple_ok boot_tuple (by rfl) T.b.tuple (z_cons (z_K (z_slc rfl (z_o true 4) z_no (z_bd (z_T (z_c1 (c_law_take T 12) rfl hr (z_cons (z_o false 0) (z_cons (z_T (z_bin (add_ok rfl) (z_K (z_fn (len_ok rfl) boot_len (by rfl) T.b.len (z_cons (z_o false 4) z_nil))) (z_K z_int))) z_nil)) (by omega)))))) z_nil))))) z_nil))))))
    (z_s1 (z_ret (z_ty tuple_ok boot_tuple (by rfl) T.b.tuple (z_cons (z_o true 2) z_nil))))))
/-! _law_lists: 0=_law_what 1=_law_mine -/
theorem sc_law_lists : FnScope ["_law_what", "_law_mine"] ["_law_what"] (defScope (top 27)) := ⟨rfl, rfl, rfl, by decide +kernel, rfl, by decide +kernel, by decide +kernel⟩
theorem c_law_lists (T : Top P w G mg base) : ∀ n : Nat, CalZ P w G mg base (0 + n) "_law_lists" 0 (f_law_lists n)
  | 0 => (calZ0 T.d_law_lists).mono (Nat.zero_le _)
  | n + 1 => have C : CalZ P w G mg base (0 + n) "_law_lists" 0 (f_law_lists n) := c_law_lists T n; by
    refine calM (k := 0 + n) (m := m_law_lists (f_law_lists n)) T.d_law_lists sc_law_lists (by decide) (fun B ios f cdv A outer s H E hio hr tkp => have hN := sc_law_lists.nd;  ?_) rfl
    exact (z_s1 (z_ret (z_ife (z_t (z_fn isi_ok boot_isinstance (by rfl) T.b.isinstance (z_cons (z_o false 0) (z_cons (z_T (z_tup (z_cons (z_T (z_cl boot_list (by rfl) T.b.list)) (z_cons (z_T (z_cl boot_tuple (by rfl) T.b.tuple)) z_nil)))) z_nil)))) (z_lc [("_law_mine", 1)] hio rfl hN (z_seq rfl (z_v 0)) (fun _ _ _ _ _ => (z_gn (vs := [1]) 1 hio hN)) (fun _ _ _ _ _ => z_ptsnil) (fun _ _ _ _ _ => (z_c0 C rfl hr (z_cons (z_o false 1) z_nil) (by omega)))) (z_v 0))))
/-! _law_told: 0=_law_ask 1=_law_found 2=_law_caught 3=error -/
theorem sc_law_told : FnScope ["_law_ask", "_law_found", "_law_caught", "error"] ["_law_ask"] (defScope (top 28)) := ⟨rfl, rfl, rfl, by decide +kernel, rfl, by decide +kernel, by decide +kernel⟩
theorem g_law_told (X : Cx) {kk : Nat} (hP : X.prog = P) (hw : X.w = w) (hK : X.K = G.K) (hm : X.mg = mg) (hb : X.base = base) (T : Top P w G mg base) (hkk : 0 ≤ kk) (g : Addr) (cdg : Value) (q : Str) : Gives X kk ["_law_ask", "_law_found", "_law_caught", "error"] "_law_told" (defScope (top 28)) g cdg (defBody (top 28)) "_law_ask" q (TTz G told_law_told) := by
  cases X; cases hP; cases hw; cases hK; cases hm; cases hb
  refine gives_A sc_law_told.nd rfl rfl rfl (by decide) (by decide) (fun B s H hr => ?_) (fun s H C hC => ca_2 ⟨rfl, by decide, .inl T.cNoName⟩ ⟨rfl, by decide, .inl T.cNoTie⟩ (T.xm_law_told C hC)) (fun s => by rfl) (fun s => by rfl) (fun s => by rfl) (fun s => by rfl)
  have hN := sc_law_told.nd
  have hio : ∀ p ∈ ([] : List (Nat × V)), p.1 < 0 := fun p hp => nomatch hp
  exact (z_sc (z_if (z_tcmp is_ok (z_o false 2) (z_T z_non)) (z_s1 (z_retv 1)) z_snil)
    (z_s1 (z_ret (z_ife (z_w (z_wand (z_t (z_fn (isx_ok T.xf rfl) boot_isinstance (by rfl) T.b.isinstance (z_cons (z_o false 2) (z_cons (z_T (z_gx (by rfl) T.cNoTie)) z_nil)))) (z_wand1 (z_t (z_fn (isx_ok T.xf rfl) boot_isinstance (by rfl) T.b.isinstance (z_cons (z_o false 2) (z_cons (z_T (z_cl (T := "LookupError") (by kernel_rfl) (by rfl) T.xLookupError)) z_nil))))))) (z_lst (z_cons (z_T z_str) (z_cons (z_T (z_fld T.fsaying (z_v 2))) z_nil))) z_non))))
/-! _law_row_right: 0=_law_wood 1=_law_pose 2=_law_trip 3=_law_here 4=_law_idle 5=_law_strange 6=_law_at 7=_law_pair 8=_law_fine 9=_law_later 10=_law_due 11=_law_told_here 12=_law_some -/
theorem sc_law_row_right : FnScope ["_law_wood", "_law_pose", "_law_trip", "_law_here", "_law_idle", "_law_strange", "_law_at", "_law_pair", "_law_fine", "_law_later", "_law_due", "_law_told_here", "_law_some"] ["_law_wood", "_law_pose", "_law_trip"] (defScope (top 29)) := ⟨rfl, rfl, rfl, by decide +kernel, rfl, by decide +kernel, by decide +kernel⟩
theorem c_law_row_right (T : Top P w G mg base) : CalZ P w G mg base 13 "_law_row_right" 0 f_law_row_right := by
  refine calL (k := 12) (m := m_law_row_right) T.l_law_row_right sc_law_row_right (by decide) (fun B ios f cdv P9 A outer s H E TB9 hio hr tkp => have hN := sc_law_row_right.nd;  ?_) rfl
  exact (z_sc (z_par3 3 4 5 hio rfl hN (z_cons (z_T (z_v 1)) (z_cons (z_T (z_lst z_nil)) (z_cons (z_T z_non) z_nil))))
    (z_sc (z_for tkp.hp rfl (z_enum (by rfl) T.b.enumerate (z_cons (z_K (z_v 2)) z_nil)) (z_gt rfl (z_gcons (z_gn (vs := [6, 7]) 6 hio hN) (z_gcons (z_gn (vs := [6, 7]) 7 hio hN) z_gnil)) (hlen := (len_consT (len_consT len_nilT)))) (z_sc (z_set 8 hio (z_and (z_cmp (in_ok rfl hr.units false) (z_T (z_ix (z_o true 7) (z_K z_int))) (z_T (z_ix (z_o true 0) (z_K z_int)))) (z_and (z_cmp (in_ok rfl hr.units false) (z_T (z_ix (z_o true 7) (z_K z_int))) (z_T (z_ix (z_o true 0) (z_K z_int)))) (z_one (z_c0 (c_law_tied T) rfl hr (z_cons (z_o false 0) (z_cons (z_T (z_ix (z_o true 7) (z_K z_int))) (z_cons (z_T (z_ix (z_o true 7) (z_K z_int))) z_nil))) (by omega))))) hN)
    (z_s1 (z_if (z_w (z_wand (z_tcmp is_ok (z_o false 5) (z_T z_non)) (z_wand1 (z_t (z_v 8))))) (z_sc (z_set 9 hio (z_c0 (c_law_spoke T) rfl hr (z_cons (z_o false 0) (z_cons (z_o false 3) (z_cons (z_o false 7) z_nil))) (by omega)) hN)
    (z_s1 (z_par 4 3 hio rfl hN (z_cons (z_T (z_bin (add_ok rfl) (z_o true 4) (z_K (z_bin mul_ok (z_K (z_lst (z_cons (z_T (z_v 6)) z_nil))) (z_K (z_ty int_ok boot_int (by rfl) T.b.int (z_cons (z_T (z_cmp (eq_ok rfl hr.units) (z_o false 9) (z_o false 3))) z_nil))))))) (z_cons (z_T (z_v 9)) z_nil))))) (z_s1 (z_if (z_tcmp is_ok (z_o false 5) (z_T z_non)) (z_s1 (z_set 5 hio (z_lst (z_cons (z_T z_str) (z_cons (z_T (z_v 7)) z_nil))) hN)) z_snil))))))
    (z_sc (z_set 10 hio (z_ife (z_tcmp is_ok (z_o false 5) (z_T z_non)) (z_lst (z_cons (z_T (z_v 3)) (z_cons (z_T (z_v 4)) z_nil))) (z_lst (z_cons (z_T (z_v 5)) (z_cons (z_T (z_v 5)) z_nil)))) hN)
    (z_sc (z_set 11 hio (z_lst (z_cons (z_T (z_lamF (z_lam (k := 10) (L := LamX.lamS_by (show LamX.lamSB (defScope (top 29)) _ = true by decide +kernel)) T.d_law_told sc_law_told (fun g9 cdg9 => g_law_told _ rfl rfl rfl rfl rfl T (by omega) g9 cdg9 _) rfl TB9 hr pa_nil (fun A9 outer9 s9 H9 E9 f9 c9 hr tkp => by exact (z_cx tkp.tk (cdone T) rfl hr (z_cons (z_T (z_v 0)) (z_cons (z_T (z_v 1)) (z_cons (z_T (z_v 2)) z_nil))) (by omega)))))) z_nil)) hN)
    (z_sc (z_expr (z_append 11 rfl (z_cons (z_T (z_lamF (z_lam (k := 10) (L := LamX.lamS_by (show LamX.lamSB (defScope (top 29)) _ = true by decide +kernel)) T.d_law_told sc_law_told (fun g9 cdg9 => g_law_told _ rfl rfl rfl rfl rfl T (by omega) g9 cdg9 _) rfl TB9 hr pa_nil (fun A9 outer9 s9 H9 E9 f9 c9 hr tkp => by exact (z_cx tkp.tk (cidle_in T) rfl hr (z_cons (z_T (z_v 0)) (z_cons (z_T (z_v 1)) (z_cons (z_T (z_v 2)) z_nil))) (by omega)))))) z_nil)))
    (z_sc (z_if (z_tnot (z_t (z_c0 (c_law_same T 12) rfl hr (z_cons (z_o false 11) (z_cons (z_o false 10) z_nil)) (by omega)))) (z_s1 (z_ret z_bl)) z_snil)
    (z_sc (z_if (z_tcmp isnt_ok (z_o false 5) (z_T z_non)) (z_s1 (z_ret z_bl)) z_snil)
    (z_sc (z_expr (z_appL 11 1 rfl))
    (z_sc (z_set 12 hio (z_lst (z_cons (z_T (z_ck (ks := ["row", "stand", "tree"]) [2, 1, 0] (cdone T) T.ddone rfl hr (pk_consM (z_T (z_ty tuple_ok boot_tuple (by rfl) T.b.tuple (z_cons (z_K (z_c0 (c_law_lists T 12) rfl hr (z_cons (z_o false 2) z_nil) (by omega))) z_nil))) (pk_consM (z_T (z_c0 (c_law_lists T 12) rfl hr (z_cons (z_o false 1) z_nil) (by omega))) (pk_consM (z_T (z_c0 (c_law_lists T 12) rfl hr (z_cons (z_o false 0) z_nil) (by omega))) pk_nilM))) (by omega) (by decide) (by intro _ _ _ _ _ _ ws hl; match ws, hl with | _ :: _ :: _ :: _, _ => rfl | [], hl => exact absurd hl (by simp [pm]) | [_], hl => exact absurd hl (by simp [pm]) | [_, _], hl => exact absurd hl (by simp [pm])))) z_nil)) hN)
    (z_sc (z_expr (z_append 12 rfl (z_cons (z_T (z_ck (ks := ["row", "stand", "tree"]) [2, 1, 0] (cidle_in T) T.didle_in rfl hr (pk_consM (z_T (z_ty tuple_ok boot_tuple (by rfl) T.b.tuple (z_cons (z_K (z_c0 (c_law_lists T 12) rfl hr (z_cons (z_o false 2) z_nil) (by omega))) z_nil))) (pk_consM (z_T (z_c0 (c_law_lists T 12) rfl hr (z_cons (z_o false 1) z_nil) (by omega))) (pk_consM (z_T (z_c0 (c_law_lists T 12) rfl hr (z_cons (z_o false 0) z_nil) (by omega))) pk_nilM))) (by omega) (by decide) (by intro _ _ _ _ _ _ ws hl; match ws, hl with | _ :: _ :: _ :: _, _ => rfl | [], hl => exact absurd hl (by simp [pm]) | [_], hl => exact absurd hl (by simp [pm]) | [_, _], hl => exact absurd hl (by simp [pm])))) z_nil)))
    (z_s1 (z_ret (z_c0 (c_law_same T 12) rfl hr (z_cons (z_T (z_bin (add_ok rfl) (z_o true 12) (z_K (z_lst (z_cons (z_T (z_c0 (cidle_in T) rfl hr (z_cons (z_o false 0) (z_cons (z_o false 1) (z_cons (z_o false 2) z_nil))) (by omega))) z_nil))))) (z_cons (z_T (z_lst (z_cons (z_T (z_v 3)) (z_cons (z_T (z_v 4)) (z_cons (z_T (z_v 4)) z_nil))))) z_nil)) (by omega))))))))))))))
/-! _law_right: 0=_law_box_here 1=_law_wood 2=_law_pose 3=_law_trip 4=_law_strange 5=_law_at 6=_law_kept -/
theorem sc_law_right : FnScope ["_law_box_here", "_law_wood", "_law_pose", "_law_trip", "_law_strange", "_law_at", "_law_kept"] ["_law_box_here"] (defScope (top 30)) := ⟨rfl, rfl, rfl, by decide +kernel, rfl, by decide +kernel, by decide +kernel⟩
theorem c_law_right (T : Top P w G mg base) : CalG P w G mg base 15 "_law_right" 1 f_law_right := by
  refine calG (k := 14) (m := m_law_right) T.d_law_right sc_law_right (by decide) (fun B ios f cdv A outer s H E gd hio hr tkp => have hN := sc_law_right.nd;  ?_) rfl
  exact (z_sc (z_set 1 hio (z_c1 (c_law_tree T) rfl hr (z_cons (z_o false 0) (z_cons (z_T z_int) (z_cons (z_T z_int) z_nil))) (by omega)) hN)
    (z_sc (z_for tkp.hp rfl (z_seq rfl (z_tup (z_cons (z_T (z_c0 (c_law_own T) rfl hr (z_cons (z_o false 1) z_nil) (by omega))) (z_cons (z_T (z_c1 (c_law_any_stand T) rfl hr (z_cons (z_o false 0) (z_cons (z_o false 1) z_nil)) (by omega))) z_nil)))) (z_gn (vs := [2]) 2 hio hN) (z_sc (z_set 3 hio (z_c1 (c_law_row T) rfl hr (z_cons (z_o false 0) (z_cons (z_o false 1) (z_cons (z_T (z_c1 (c_law_take T 12) rfl hr (z_cons (z_o false 0) (z_cons (z_T z_int) z_nil)) (by omega))) z_nil))) (by omega)) hN)
    (z_sc (z_if (z_tcmp (eq_ok rfl hr.units) (z_T (z_c1 (c_law_take T 12) rfl hr (z_cons (z_o false 0) (z_cons (z_T z_int) z_nil)) (by omega))) (z_T z_int)) (z_sc (z_set 4 hio (z_tup (z_cons (z_T (z_c1 (c_law_of T) rfl hr (z_cons (z_o false 0) (z_cons (z_T (z_ix (z_o true 1) (z_K z_int))) z_nil)) (by omega))) (z_cons (z_T (z_c1 (c_law_of T) rfl hr (z_cons (z_o false 0) (z_cons (z_T (z_bin (add_ok rfl) (z_K (z_ty list_ok boot_list (by rfl) T.b.list (z_cons (z_K (z_ix (z_o true 1) (z_K z_int))) z_nil))) (z_K (z_lst (z_cons (z_T z_str) z_nil))))) z_nil)) (by omega))) z_nil))) hN)
    (z_sc (z_set 4 hio (z_ife (z_tcmp (eq_ok rfl hr.units) (z_T (z_c1 (c_law_take T 12) rfl hr (z_cons (z_o false 0) (z_cons (z_T z_int) z_nil)) (by omega))) (z_T z_int)) (z_ty list_ok boot_list (by rfl) T.b.list (z_cons (z_o true 4) z_nil)) (z_v 4)) hN)
    (z_sc (z_set 5 hio (z_c1 (c_law_take T 12) rfl hr (z_cons (z_o false 0) (z_cons (z_T (z_bin (add_ok rfl) (z_K (z_fn (len_ok rfl) boot_len (by rfl) T.b.len (z_cons (z_o false 3) z_nil))) (z_K z_int))) z_nil)) (by omega)) hN)
    (z_s1 (z_set 3 hio (z_bin (add_ok rfl) (z_K (z_bin (add_ok rfl) (z_K (z_bin (add_ok rfl) (z_K (z_slc rfl (z_o true 3) z_no (z_bd (z_o false 5)))) (z_K (z_lst (z_cons (z_T (z_v 4)) z_nil))))) (z_K (z_slc rfl (z_o true 3) (z_bd (z_o false 5)) z_no)))) (z_K (z_lst (z_cons (z_T (z_tup (z_cons (z_T z_str) (z_cons (z_T z_str) z_nil)))) z_nil)))) hN))))) z_snil)
    (z_sc (z_set 6 hio (z_fn (repr_ok rfl gd hr.units) boot_repr (by rfl) T.b.repr (z_cons (z_T (z_lst (z_cons (z_T (z_v 1)) (z_cons (z_T (z_v 2)) (z_cons (z_T (z_v 3)) z_nil))))) z_nil)) hN)
    (z_s1 (z_if (z_w (z_wor (z_tnot (z_t (z_c0 (c_law_row_right T) rfl hr (z_cons (z_o false 1) (z_cons (z_o false 2) (z_cons (z_o false 3) z_nil))) (by omega)))) (z_wor1 (z_tcmp (ne_ok rfl hr.units) (z_T (z_fn (repr_ok rfl gd hr.units) boot_repr (by rfl) T.b.repr (z_cons (z_T (z_lst (z_cons (z_T (z_v 1)) (z_cons (z_T (z_v 2)) (z_cons (z_T (z_v 3)) z_nil))))) z_nil))) (z_o false 6))))) (z_s1 (z_ret z_bl)) z_snil))))))
    (z_s1 (z_ret z_bl))))
/-! law: 0=_law_script 1=_law_cells 2=_law_k 3=_law_box_here 4=_law_turn -/
theorem sclaw : FnScope ["_law_script", "_law_cells", "_law_k", "_law_box_here", "_law_turn"] ["_law_script"] (defScope (top 31)) := ⟨rfl, rfl, rfl, by decide +kernel, rfl, by decide +kernel, by decide +kernel⟩
theorem wlaw (T : Top P w G mg base) : ∀ (B : Bs) (ios : List (Nat × V)) (f : Addr) (cdv : Value) (A : Around) (outer : List Env) (s : Shared) (H : Hp) (E : XK), A.guards = some [] → (∀ p ∈ ios, p.1 < 0) → Room 15 (A.deeper (envOfC "law" (defScope (top 31)) s.heap.objs.size f cdv)) →
    TkP (cxOf (L2.CX P w) P w G.K mg base ["_law_script", "_law_cells", "_law_k", "_law_box_here", "_law_turn"] "law" (defScope (top 31)) f cdv A outer s H E) E → PSs (cxOf (L2.CX P w) P w G.K mg base ["_law_script", "_law_cells", "_law_k", "_law_box_here", "_law_turn"] "law" (defScope (top 31)) f cdv A outer s H E) (defBody (top 31)) (tS ⟨G, B, ios, fun _ => E⟩ mlaw) := by
  intro B ios f cdv A outer s H E gd hio hr tkp
  have hN := sclaw.nd
  exact (z_sc (z_set 1 hio (z_c0 (c_law_folded T) rfl hr (z_cons (z_o false 0) (z_cons (z_T z_int) z_nil)) (by omega)) hN)
    (z_sc (z_for tkp.hp rfl (z_range1 (by rfl) T.b.range (z_cons (z_T (z_fn (max2_ok rfl) boot_max (by rfl) T.b.max (z_cons (z_T z_int) (z_cons (z_T (z_fn (len_ok rfl) boot_len (by rfl) T.b.len (z_cons (z_o false 1) z_nil))) z_nil)))) z_nil)) (z_gn (vs := [2]) 2 hio hN) (z_sc (z_set 3 hio (z_c0 (c_law_box T) rfl hr (z_cons (z_o false 1) (z_cons (z_o false 2) z_nil)) (by omega)) hN)
    (z_s1 (z_if (z_tnot (z_t (z_fn (all_ok rfl) boot_all (by rfl) T.b.all (z_cons (z_T (z_lc [("_law_turn", 4)] hio rfl hN (z_range1 (by rfl) T.b.range (z_cons (z_T z_int) z_nil)) (fun _ _ _ _ _ => (z_gn (vs := [4]) 4 hio hN)) (fun _ _ _ _ _ => z_ptsnil) (fun _ _ _ _ _ => (z_g1 (c_law_right T) gd rfl hr (z_cons (z_o false 3) z_nil) (by omega))))) z_nil)))) (z_s1 (z_ret z_bl)) z_snil))))
    (z_s1 (z_ret z_bl))))
end Z

set_option Elab.async false
set_option linter.all false
set_option maxRecDepth 100000
set_option maxHeartbeats 4000000
namespace Z
open PySem PySem.Spec PyProof.Rows L2
/-- what law(script) promises -/
def spT (K : PySem.W.Frag) (T : List (Addr × Str)) : Sp := fun vs H Q _ => ∃ (a : Addr) (ns : List Int), vs = [.ref a] ∧ SqL K H a (ns.map V.int) ∧ (∀ b xs, H b = some (.lst xs) → False) ∧ LamX.Tabs T H ∧ ns.length ≤ 63 ∧ ∀ H', Q (.bl true) H'
theorem law_at {P : Program} {w : World} {G : Cfg} {mg : Str → Option Value} {base : Heap} {f : Addr} {fd : FuncData} (T : Top P w G mg base) (F : Fun G.K "law" "law" (top 31) f fd) : FnG P w G.K mg base 16 f fd ["_law_script"] (spT G.K G.T) := by
  have h1 : FnG P w G.K mg base 16 f fd ["_law_script"] (spZ G 0 flaw) := fnZG (G := G) 0 F sclaw (Nat.zero_le _) (fun B ios => wlaw T B ios f)
  refine h1.imp fun vs H Q E h => ?_
  obtain ⟨a, ns, rfl, hS, hO, hT, hl, q⟩ := h
  refine ⟨fun _ => False, [], [.scr ns], _, rfl, List.nodup_nil, (fun b hb => nomatch hb), (fun b hb => hb.elim), ?_, hT, p_law hl, fun _ v H' w => ?_⟩
  · refine ⟨[], [], ?_, rfl, rfl⟩
    simp only [Tr]
    refine ⟨a, rfl, ?_, trivial⟩
    rcases hS with (hS | ⟨o, hS⟩) | hS
    · exact (hO a _ hS).elim
    · exact .inl ⟨o, hS⟩
    · exact .inr fun H' => .inr hS
  · have := w.bl List.mem_cons_self
    rw [this]
    exact q H'
theorem defZ_mk {K : PySem.W.Frag} {mg : Str → Option Value} {h : Heap} {x : Str} {st : Stmt} {ps : List Str} {f : Addr} {oc : Value} {od an : Option Addr} {osl : Array (Option Value)} {kV doc pm cdv ct : Value} (X : K.In h) (Gn : h.Ns mainGlobals mg) (a : PySem.W.nsIn K mainGlobals x = some (some (.ref f)))
    (l : K.lookup f = some ⟨oc, od, .func (PySem.W.fnOf x x (defArgs st) (defBody st) (defScope st) .none kV doc pm an cdv ct), osl⟩) (c : PySem.W.codeIn K cdv x = true) (k : PySem.W.keepIn K (.ref f) = true)
    (hb : ∀ (kV doc pm : Value) (an : Option Addr) (cdv ct : Value) (us : List Value), us.length = ps.length → bindArgs (PySem.W.fnOf x x (defArgs st) (defBody st) (defScope st) .none kV doc pm an cdv ct) ⟨us, []⟩ = pure (ps.zip us)) (hps : ps = (defArgs st).args.map (·.arg) := by rfl) : DefZ K mg x st ps :=
  ⟨hps, f, _, fun_mk l c k, PySem.W.mg_of X Gn a, (fun_mk l c k).binds hb⟩
theorem rNoName {P : Program} {w : World} {G : Cfg} {mg : Str → Option Value} {base : Heap} (cx : ClsX G.K mg "NoName" (G.cls "NoName") (inClass (top 1) 0) "NoName.__init__" "name" "LookupError.__new__" [.type "LookupError", .type "Exception", .type "BaseException", .type "object"]) (hm : mg "LookupError" = none) : RzOk P w G mg base "NoName" "name" :=
  rzOk (m := "refused") ZX.base_LookupError cx ⟨rfl, rfl, rfl, by decide +kernel, rfl, by decide +kernel, by decide +kernel⟩ (fun fI cdv A outer s H E => pss_cons (ps_expr (pe_bi ZX.base_LookupError cx.ox (by rfl) hm ZX.base_LookupError.boot (pa_cons (pv 0) (pa_cons pe_str pa_nil)) (by decide) (by decide))) (pss_one (ps_bs ZX.base_LookupError cx.ox cx.free (pv 0) (pv 1))))
theorem rNoTie {P : Program} {w : World} {G : Cfg} {mg : Str → Option Value} {base : Heap} (cx : ClsX G.K mg "NoTie" (G.cls "NoTie") (inClass (top 2) 0) "NoTie.__init__" "saying" "LookupError.__new__" [.type "LookupError", .type "Exception", .type "BaseException", .type "object"]) (hm : mg "LookupError" = none) : RzOk P w G mg base "NoTie" "saying" :=
  rzOk (m := "refused") ZX.base_LookupError cx ⟨rfl, rfl, rfl, by decide +kernel, rfl, by decide +kernel, by decide +kernel⟩ (fun fI cdv A outer s H E => pss_cons (ps_expr (pe_bi ZX.base_LookupError cx.ox (by rfl) hm ZX.base_LookupError.boot (pa_cons (pv 0) (pa_cons pe_str pa_nil)) (by decide) (by decide))) (pss_one (ps_bs ZX.base_LookupError cx.ox cx.free (pv 0) (pv 1))))
theorem all_mk {l : PySem.W.OpenLaw} {w : World} {K : PySem.W.Frag} {h : Heap} {mg : Str → Option Value} {fa : Addr} (X : K.In h) (Gn : h.Ns mainGlobals mg) (hfa : mg "law" = some (.ref fa))
    {f1 f2 f3 f4 f5 f6 f7 f8 f9 f10 f11 f12 f13 f14 f15 f16 f17 f18 f19 f20 f21 f22 f23 f24 f25 f26 tc1 tp1 eNoName iNoName eNNoName eNoTie iNoTie eNNoTie : Addr} {od1 an1 od2 an2 od3 an3 od4 an4 od5 an5 od6 an6 od7 an7 od8 an8 od9 an9 od10 an10 od11 an11 od12 an12 od13 an13 od14 an14 od15 an15 od16 an16 od17 an17 od18 an18 od19 an19 od20 an20 od21 an21 od22 an22 od23 an23 od24 an24 od25 an25 od26 an26 td1 odNoName anNoName odNoTie anNoTie : Option Addr} {sl1 sl2 sl3 sl4 sl5 sl6 sl7 sl8 sl9 sl10 sl11 sl12 sl13 sl14 sl15 sl16 sl17 sl18 sl19 sl20 sl21 sl22 sl23 sl24 sl25 sl26 ts1 slNoName slNoTie : Array (Option Value)} {oc1 kV1 dc1 pm1 cd1 ct1 oc2 kV2 dc2 pm2 cd2 ct2 oc3 kV3 dc3 pm3 cd3 ct3 oc4 kV4 dc4 pm4 cd4 ct4 oc5 kV5 dc5 pm5 cd5 ct5 oc6 kV6 dc6 pm6 cd6 ct6 oc7 kV7 dc7 pm7 cd7 ct7 oc8 kV8 dc8 pm8 cd8 ct8 oc9 kV9 dc9 pm9 cd9 ct9 oc10 kV10 dc10 pm10 cd10 ct10 oc11 kV11 dc11 pm11 cd11 ct11 oc12 kV12 dc12 pm12 cd12 ct12 oc13 kV13 dc13 pm13 cd13 ct13 oc14 kV14 dc14 pm14 cd14 ct14 oc15 kV15 dc15 pm15 cd15 ct15 oc16 kV16 dc16 pm16 cd16 ct16 oc17 kV17 dc17 pm17 cd17 ct17 oc18 kV18 dc18 pm18 cd18 ct18 oc19 kV19 dc19 pm19 cd19 ct19 oc20 kV20 dc20 pm20 cd20 ct20 oc21 kV21 dc21 pm21 cd21 ct21 oc22 kV22 dc22 pm22 cd22 ct22 oc23 kV23 dc23 pm23 cd23 ct23 oc24 kV24 dc24 pm24 cd24 ct24 oc25 kV25 dc25 pm25 cd25 ct25 oc26 kV26 dc26 pm26 cd26 ct26 te1 ocNoName kVNoName dcNoName pmNoName cdNoName ctNoName ocNoTie kVNoTie dcNoTie pmNoTie cdNoTie ctNoTie : Value} {bsNoName bsNoTie : List Value} {tv1 : Array Value} {nmNoName qnNoName : Str} {snNoName subNoName abNoName colNoName ddNoName m0NoName m1NoName m2NoName m3NoName m5NoName} {nmNoTie qnNoTie : Str} {snNoTie subNoTie abNoTie colNoTie ddNoTie m0NoTie m1NoTie m2NoTie m3NoTie m5NoTie} 
    (a1 : PySem.W.nsIn K mainGlobals "is_tied" = some (some (.ref f1)))
    (l1 : K.lookup f1 = some ⟨oc1, od1, .func (PySem.W.fnOf "is_tied" "is_tied" (defArgs (top 4)) (defBody (top 4)) (defScope (top 4)) .none kV1 dc1 pm1 an1 cd1 ct1), sl1⟩)
    (c1 : PySem.W.codeIn K cd1 "is_tied" = true)
    (k1 : PySem.W.keepIn K (.ref f1) = true)
    (a2 : PySem.W.nsIn K mainGlobals "as_stand" = some (some (.ref f2)))
    (l2 : K.lookup f2 = some ⟨oc2, od2, .func (PySem.W.fnOf "as_stand" "as_stand" (defArgs (top 6)) (defBody (top 6)) (defScope (top 6)) .none kV2 dc2 pm2 an2 cd2 ct2), sl2⟩)
    (c2 : PySem.W.codeIn K cd2 "as_stand" = true)
    (k2 : PySem.W.keepIn K (.ref f2) = true)
    (a3 : PySem.W.nsIn K mainGlobals "place_of" = some (some (.ref f3)))
    (l3 : K.lookup f3 = some ⟨oc3, od3, .func (PySem.W.fnOf "place_of" "place_of" (defArgs (top 7)) (defBody (top 7)) (defScope (top 7)) .none kV3 dc3 pm3 an3 cd3 ct3), sl3⟩)
    (c3 : PySem.W.codeIn K cd3 "place_of" = true)
    (k3 : PySem.W.keepIn K (.ref f3) = true)
    (a4 : PySem.W.nsIn K mainGlobals "look_saying" = some (some (.ref f4)))
    (l4 : K.lookup f4 = some ⟨oc4, od4, .func (PySem.W.fnOf "look_saying" "look_saying" (defArgs (top 8)) (defBody (top 8)) (defScope (top 8)) .none kV4 dc4 pm4 an4 cd4 ct4), sl4⟩)
    (c4 : PySem.W.codeIn K cd4 "look_saying" = true)
    (k4 : PySem.W.keepIn K (.ref f4) = true)
    (a5 : PySem.W.nsIn K mainGlobals "joined" = some (some (.ref f5)))
    (l5 : K.lookup f5 = some ⟨oc5, od5, .func (PySem.W.fnOf "joined" "joined" (defArgs (top 9)) (defBody (top 9)) (defScope (top 9)) .none kV5 dc5 pm5 an5 cd5 ct5), sl5⟩)
    (c5 : PySem.W.codeIn K cd5 "joined" = true)
    (k5 : PySem.W.keepIn K (.ref f5) = true)
    (a6 : PySem.W.nsIn K mainGlobals "heard" = some (some (.ref f6)))
    (l6 : K.lookup f6 = some ⟨oc6, od6, .func (PySem.W.fnOf "heard" "heard" (defArgs (top 10)) (defBody (top 10)) (defScope (top 10)) .none kV6 dc6 pm6 an6 cd6 ct6), sl6⟩)
    (c6 : PySem.W.codeIn K cd6 "heard" = true)
    (k6 : PySem.W.keepIn K (.ref f6) = true)
    (a7 : PySem.W.nsIn K mainGlobals "done" = some (some (.ref f7)))
    (l7 : K.lookup f7 = some ⟨oc7, od7, .func (PySem.W.fnOf "done" "done" (defArgs (top 11)) (defBody (top 11)) (defScope (top 11)) .none kV7 dc7 pm7 an7 cd7 ct7), sl7⟩)
    (c7 : PySem.W.codeIn K cd7 "done" = true)
    (k7 : PySem.W.keepIn K (.ref f7) = true)
    (a8 : PySem.W.nsIn K mainGlobals "idle_in" = some (some (.ref f8)))
    (l8 : K.lookup f8 = some ⟨oc8, od8, .func (PySem.W.fnOf "idle_in" "idle_in" (defArgs (top 12)) (defBody (top 12)) (defScope (top 12)) .none kV8 dc8 pm8 an8 cd8 ct8), sl8⟩)
    (c8 : PySem.W.codeIn K cd8 "idle_in" = true)
    (k8 : PySem.W.keepIn K (.ref f8) = true)
    (a9 : PySem.W.nsIn K mainGlobals "_law_box" = some (some (.ref f9)))
    (l9 : K.lookup f9 = some ⟨oc9, od9, .func (PySem.W.fnOf "_law_box" "_law_box" (defArgs (top 14)) (defBody (top 14)) (defScope (top 14)) .none kV9 dc9 pm9 an9 cd9 ct9), sl9⟩)
    (c9 : PySem.W.codeIn K cd9 "_law_box" = true)
    (k9 : PySem.W.keepIn K (.ref f9) = true)
    (a10 : PySem.W.nsIn K mainGlobals "_law_take" = some (some (.ref f10)))
    (l10 : K.lookup f10 = some ⟨oc10, od10, .func (PySem.W.fnOf "_law_take" "_law_take" (defArgs (top 15)) (defBody (top 15)) (defScope (top 15)) .none kV10 dc10 pm10 an10 cd10 ct10), sl10⟩)
    (c10 : PySem.W.codeIn K cd10 "_law_take" = true)
    (k10 : PySem.W.keepIn K (.ref f10) = true)
    (a11 : PySem.W.nsIn K mainGlobals "_law_folded" = some (some (.ref f11)))
    (l11 : K.lookup f11 = some ⟨oc11, od11, .func (PySem.W.fnOf "_law_folded" "_law_folded" (defArgs (top 16)) (defBody (top 16)) (defScope (top 16)) .none kV11 dc11 pm11 an11 cd11 ct11), sl11⟩)
    (c11 : PySem.W.codeIn K cd11 "_law_folded" = true)
    (k11 : PySem.W.keepIn K (.ref f11) = true)
    (a12 : PySem.W.nsIn K mainGlobals "_law_same" = some (some (.ref f12)))
    (l12 : K.lookup f12 = some ⟨oc12, od12, .func (PySem.W.fnOf "_law_same" "_law_same" (defArgs (top 17)) (defBody (top 17)) (defScope (top 17)) .none kV12 dc12 pm12 an12 cd12 ct12), sl12⟩)
    (c12 : PySem.W.codeIn K cd12 "_law_same" = true)
    (k12 : PySem.W.keepIn K (.ref f12) = true)
    (a13 : PySem.W.nsIn K mainGlobals "_law_of" = some (some (.ref f13)))
    (l13 : K.lookup f13 = some ⟨oc13, od13, .func (PySem.W.fnOf "_law_of" "_law_of" (defArgs (top 18)) (defBody (top 18)) (defScope (top 18)) .none kV13 dc13 pm13 an13 cd13 ct13), sl13⟩)
    (c13 : PySem.W.codeIn K cd13 "_law_of" = true)
    (k13 : PySem.W.keepIn K (.ref f13) = true)
    (a14 : PySem.W.nsIn K mainGlobals "_law_strewn" = some (some (.ref f14)))
    (l14 : K.lookup f14 = some ⟨oc14, od14, .func (PySem.W.fnOf "_law_strewn" "_law_strewn" (defArgs (top 19)) (defBody (top 19)) (defScope (top 19)) .none kV14 dc14 pm14 an14 cd14 ct14), sl14⟩)
    (c14 : PySem.W.codeIn K cd14 "_law_strewn" = true)
    (k14 : PySem.W.keepIn K (.ref f14) = true)
    (a15 : PySem.W.nsIn K mainGlobals "_law_names" = some (some (.ref f15)))
    (l15 : K.lookup f15 = some ⟨oc15, od15, .func (PySem.W.fnOf "_law_names" "_law_names" (defArgs (top 20)) (defBody (top 20)) (defScope (top 20)) .none kV15 dc15 pm15 an15 cd15 ct15), sl15⟩)
    (c15 : PySem.W.codeIn K cd15 "_law_names" = true)
    (k15 : PySem.W.keepIn K (.ref f15) = true)
    (a16 : PySem.W.nsIn K mainGlobals "_law_tree" = some (some (.ref f16)))
    (l16 : K.lookup f16 = some ⟨oc16, od16, .func (PySem.W.fnOf "_law_tree" "_law_tree" (defArgs (top 21)) (defBody (top 21)) (defScope (top 21)) .none kV16 dc16 pm16 an16 cd16 ct16), sl16⟩)
    (c16 : PySem.W.codeIn K cd16 "_law_tree" = true)
    (k16 : PySem.W.keepIn K (.ref f16) = true)
    (a17 : PySem.W.nsIn K mainGlobals "_law_tied" = some (some (.ref f17)))
    (l17 : K.lookup f17 = some ⟨oc17, od17, .func (PySem.W.fnOf "_law_tied" "_law_tied" (defArgs (top 22)) (defBody (top 22)) (defScope (top 22)) .none kV17 dc17 pm17 an17 cd17 ct17), sl17⟩)
    (c17 : PySem.W.codeIn K cd17 "_law_tied" = true)
    (k17 : PySem.W.keepIn K (.ref f17) = true)
    (a18 : PySem.W.nsIn K mainGlobals "_law_spoke" = some (some (.ref f18)))
    (l18 : K.lookup f18 = some ⟨oc18, od18, .func (PySem.W.fnOf "_law_spoke" "_law_spoke" (defArgs (top 23)) (defBody (top 23)) (defScope (top 23)) .none kV18 dc18 pm18 an18 cd18 ct18), sl18⟩)
    (c18 : PySem.W.codeIn K cd18 "_law_spoke" = true)
    (k18 : PySem.W.keepIn K (.ref f18) = true)
    (a19 : PySem.W.nsIn K mainGlobals "_law_own" = some (some (.ref f19)))
    (l19 : K.lookup f19 = some ⟨oc19, od19, .func (PySem.W.fnOf "_law_own" "_law_own" (defArgs (top 24)) (defBody (top 24)) (defScope (top 24)) .none kV19 dc19 pm19 an19 cd19 ct19), sl19⟩)
    (c19 : PySem.W.codeIn K cd19 "_law_own" = true)
    (k19 : PySem.W.keepIn K (.ref f19) = true)
    (a20 : PySem.W.nsIn K mainGlobals "_law_row" = some (some (.ref f20)))
    (l20 : K.lookup f20 = some ⟨oc20, od20, .func (PySem.W.fnOf "_law_row" "_law_row" (defArgs (top 25)) (defBody (top 25)) (defScope (top 25)) .none kV20 dc20 pm20 an20 cd20 ct20), sl20⟩)
    (c20 : PySem.W.codeIn K cd20 "_law_row" = true)
    (k20 : PySem.W.keepIn K (.ref f20) = true)
    (a21 : PySem.W.nsIn K mainGlobals "_law_any_stand" = some (some (.ref f21)))
    (l21 : K.lookup f21 = some ⟨oc21, od21, .func (PySem.W.fnOf "_law_any_stand" "_law_any_stand" (defArgs (top 26)) (defBody (top 26)) (defScope (top 26)) .none kV21 dc21 pm21 an21 cd21 ct21), sl21⟩)
    (c21 : PySem.W.codeIn K cd21 "_law_any_stand" = true)
    (k21 : PySem.W.keepIn K (.ref f21) = true)
    (a22 : PySem.W.nsIn K mainGlobals "_law_lists" = some (some (.ref f22)))
    (l22 : K.lookup f22 = some ⟨oc22, od22, .func (PySem.W.fnOf "_law_lists" "_law_lists" (defArgs (top 27)) (defBody (top 27)) (defScope (top 27)) .none kV22 dc22 pm22 an22 cd22 ct22), sl22⟩)
    (c22 : PySem.W.codeIn K cd22 "_law_lists" = true)
    (k22 : PySem.W.keepIn K (.ref f22) = true)
    (a23 : PySem.W.nsIn K mainGlobals "_law_told" = some (some (.ref f23)))
    (l23 : K.lookup f23 = some ⟨oc23, od23, .func (PySem.W.fnOf "_law_told" "_law_told" (defArgs (top 28)) (defBody (top 28)) (defScope (top 28)) .none kV23 dc23 pm23 an23 cd23 ct23), sl23⟩)
    (c23 : PySem.W.codeIn K cd23 "_law_told" = true)
    (k23 : PySem.W.keepIn K (.ref f23) = true)
    (a24 : PySem.W.nsIn K mainGlobals "_law_row_right" = some (some (.ref f24)))
    (l24 : K.lookup f24 = some ⟨oc24, od24, .func (PySem.W.fnOf "_law_row_right" "_law_row_right" (defArgs (top 29)) (defBody (top 29)) (defScope (top 29)) .none kV24 dc24 pm24 an24 cd24 ct24), sl24⟩)
    (c24 : PySem.W.codeIn K cd24 "_law_row_right" = true)
    (k24 : PySem.W.keepIn K (.ref f24) = true)
    (a25 : PySem.W.nsIn K mainGlobals "_law_right" = some (some (.ref f25)))
    (l25 : K.lookup f25 = some ⟨oc25, od25, .func (PySem.W.fnOf "_law_right" "_law_right" (defArgs (top 30)) (defBody (top 30)) (defScope (top 30)) .none kV25 dc25 pm25 an25 cd25 ct25), sl25⟩)
    (c25 : PySem.W.codeIn K cd25 "_law_right" = true)
    (k25 : PySem.W.keepIn K (.ref f25) = true)
    (a26 : PySem.W.nsIn K mainGlobals "law" = some (some (.ref f26)))
    (l26 : K.lookup f26 = some ⟨oc26, od26, .func (PySem.W.fnOf "law" "law" (defArgs (top 31)) (defBody (top 31)) (defScope (top 31)) .none kV26 dc26 pm26 an26 cd26 ct26), sl26⟩)
    (c26 : PySem.W.codeIn K cd26 "law" = true)
    (k26 : PySem.W.keepIn K (.ref f26) = true)
    (q1 : cd24 = .ref tc1)
    (r1 : K.lookup tc1 = some ⟨te1, td1, .fields tv1, ts1⟩)
    (s1 : (tv1[11]? : Option Value) = some (.ref tp1))
    (n1 : K.lookup tp1 = none)
    (z1 : PySem.W.nsIn K mainGlobals "abs" = some none)
    (z2 : PySem.W.nsIn K mainGlobals "all" = some none)
    (z3 : PySem.W.nsIn K mainGlobals "any" = some none)
    (z4 : PySem.W.nsIn K mainGlobals "divmod" = some none)
    (z5 : PySem.W.nsIn K mainGlobals "enumerate" = some none)
    (z6 : PySem.W.nsIn K mainGlobals "int" = some none)
    (z7 : PySem.W.nsIn K mainGlobals "isinstance" = some none)
    (z8 : PySem.W.nsIn K mainGlobals "len" = some none)
    (z9 : PySem.W.nsIn K mainGlobals "list" = some none)
    (z10 : PySem.W.nsIn K mainGlobals "max" = some none)
    (z11 : PySem.W.nsIn K mainGlobals "min" = some none)
    (z12 : PySem.W.nsIn K mainGlobals "range" = some none)
    (z13 : PySem.W.nsIn K mainGlobals "sorted" = some none)
    (z14 : PySem.W.nsIn K mainGlobals "tuple" = some none)
    (z15 : PySem.W.nsIn K mainGlobals "zip" = some none)
    (z16 : PySem.W.nsIn K mainGlobals "str" = some none)
    (z17 : PySem.W.nsIn K mainGlobals "bool" = some none)
    (z18 : PySem.W.nsIn K mainGlobals "repr" = some none)
    (z19 : PySem.W.nsIn K mainGlobals "sum" = some none)
    (z20 : PySem.W.nsIn K mainGlobals "set" = some none)
    (z21 : PySem.W.nsIn K mainGlobals "dict" = some none)
    (zzLookupError : PySem.W.nsIn K mainGlobals "LookupError" = some none)
    (eaNoName : PySem.W.nsIn K mainGlobals "NoName" = some (some (.ref eNoName)))
    (xLNoName : K.lookup eNoName = some (excClassObj nmNoName qnNoName eNoName eNNoName bsNoName [.type "LookupError", .type "Exception", .type "BaseException", .type "object"] true snNoName subNoName abNoName colNoName ddNoName m0NoName m1NoName m2NoName m3NoName m5NoName "LookupError.__new__"))
    (oxNoName : oxB K eNoName "name" = true)
    (iCNoName : PySem.W.findIn K (.ref eNoName) "__init__" = some (some (.ref iNoName)))
    (tINoName : PySem.W.typeIn K (.ref iNoName) = some (.type "function"))
    (lINoName : K.lookup iNoName = some ⟨ocNoName, odNoName, .func (PySem.W.fnOf "__init__" "NoName.__init__" (defArgs (inClass (top 1) 0)) (defBody (inClass (top 1) 0)) (defScope (inClass (top 1) 0)) .none kVNoName dcNoName pmNoName anNoName cdNoName ctNoName), slNoName⟩)
    (cINoName : PySem.W.codeIn K cdNoName "NoName.__init__" = true)
    (kINoName : PySem.W.keepIn K (.ref iNoName) = true)
    (eaNoTie : PySem.W.nsIn K mainGlobals "NoTie" = some (some (.ref eNoTie)))
    (xLNoTie : K.lookup eNoTie = some (excClassObj nmNoTie qnNoTie eNoTie eNNoTie bsNoTie [.type "LookupError", .type "Exception", .type "BaseException", .type "object"] true snNoTie subNoTie abNoTie colNoTie ddNoTie m0NoTie m1NoTie m2NoTie m3NoTie m5NoTie "LookupError.__new__"))
    (oxNoTie : oxB K eNoTie "saying" = true)
    (iCNoTie : PySem.W.findIn K (.ref eNoTie) "__init__" = some (some (.ref iNoTie)))
    (tINoTie : PySem.W.typeIn K (.ref iNoTie) = some (.type "function"))
    (lINoTie : K.lookup iNoTie = some ⟨ocNoTie, odNoTie, .func (PySem.W.fnOf "__init__" "NoTie.__init__" (defArgs (inClass (top 2) 0)) (defBody (inClass (top 2) 0)) (defScope (inClass (top 2) 0)) .none kVNoTie dcNoTie pmNoTie anNoTie cdNoTie ctNoTie), slNoTie⟩)
    (cINoTie : PySem.W.codeIn K cdNoTie "NoTie.__init__" = true)
    (kINoTie : PySem.W.keepIn K (.ref iNoTie) = true)
    (xx : xkB K (clsF [("NoName", eNoName), ("NoTie", eNoTie)]) xk = true)
    (fdname : fdB K (clsF [("NoName", eNoName), ("NoTie", eNoTie)]) xk.Kn "name" = true)
    (fdsaying : fdB K (clsF [("NoName", eNoName), ("NoTie", eNoTie)]) xk.Kn "saying" = true)
    (xm_law_told : exB K (clsF [("NoName", eNoName), ("NoTie", eNoTie)]) xk.Kn ["NoName", "NoTie"] = true) :
    ∃ (fd : FuncData) (cs : List (Addr × Addr)) (sp : Sp), (∀ p ∈ cs, ∃ x ∈ (["_law_row_right"] : List Str), PySem.W.tabIn K x = some p) ∧ (∀ p ∈ cs, K.lookup p.2 = none) ∧ (∀ (s : Shared) (u : Value), BindsTo s fd ⟨[u], []⟩ [("_law_script", u)]) ∧
        (∀ (H : Hp) (a : Addr) (ns : List Int), ns.length ≤ 63 → TOnly cs H → SqL K H a (ns.map V.int) → sp [.ref a] H (fun v _ => v = .bl true) fun _ _ _ => False) ∧
        ∀ base : Heap, K.In base → base.Ns mainGlobals mg → (∀ p ∈ cs, LamX.TabB base mg p.1 p.2) → FnG l.prog w K mg base 16 fa fd ["_law_script"] sp := by
  have e := hfa.symm.trans (PySem.W.mg_of X Gn a26)
  cases e
  refine ⟨PySem.W.fnOf "law" "law" (defArgs (top 31)) (defBody (top 31)) (defScope (top 31)) .none kV26 dc26 pm26 an26 cd26 ct26, [(tc1, tp1)], spT K [(tp1, (("_law_row_right" : Str) ++ ".<locals>.") ++ "<lambda>")], ?_, ?_, fun s v => .of_eq rfl, ?_, fun base KB NB TB => ?_⟩
  · exact List.forall_mem_cons.mpr ⟨⟨_, List.mem_cons_self, (tab_mk a24 l24 q1 r1 s1)⟩, (fun _ z => nomatch z)⟩
  · exact List.forall_mem_cons.mpr ⟨n1, (fun _ z => nomatch z)⟩
  · intro H a ns hl hO hS
    refine ⟨a, ns, rfl, hS, fun b xs q => ?_, (hO.tabs (List.forall_mem_cons.mpr ⟨⟨tc1, List.mem_cons_self⟩, (fun _ z => nomatch z)⟩)), hl, fun _ => rfl⟩
    rcases hO.2 b with z | ⟨p, hp, z⟩ | ⟨o, ys, z⟩
    · rw [z] at q; cases q
    · rw [z, hO.1 p hp] at q; cases q
    · rw [z] at q; cases q
  · have T : Top l.prog w (⟨K, (clsF [("NoName", eNoName), ("NoTie", eNoTie)]), [(tp1, (("_law_row_right" : Str) ++ ".<locals>.") ++ "<lambda>")]⟩ : Cfg) mg base := {
      b := ⟨PySem.W.mg_none_of X Gn z1, PySem.W.mg_none_of X Gn z2, PySem.W.mg_none_of X Gn z3, PySem.W.mg_none_of X Gn z4, PySem.W.mg_none_of X Gn z5, PySem.W.mg_none_of X Gn z6, PySem.W.mg_none_of X Gn z7, PySem.W.mg_none_of X Gn z8, PySem.W.mg_none_of X Gn z9, PySem.W.mg_none_of X Gn z10, PySem.W.mg_none_of X Gn z11, PySem.W.mg_none_of X Gn z12, PySem.W.mg_none_of X Gn z13, PySem.W.mg_none_of X Gn z14, PySem.W.mg_none_of X Gn z15, PySem.W.mg_none_of X Gn z16, PySem.W.mg_none_of X Gn z17, PySem.W.mg_none_of X Gn z18, PySem.W.mg_none_of X Gn z19, PySem.W.mg_none_of X Gn z20, PySem.W.mg_none_of X Gn z21⟩
      dis_tied := defZ_mk X Gn a1 l1 c1 k1 (fun _ _ _ _ _ _ us hl => match us, hl with | [_, _, _], _ => rfl)
      das_stand := defZ_mk X Gn a2 l2 c2 k2 (fun _ _ _ _ _ _ us hl => match us, hl with | [_], _ => rfl)
      dplace_of := defZ_mk X Gn a3 l3 c3 k3 (fun _ _ _ _ _ _ us hl => match us, hl with | [_, _], _ => rfl)
      dlook_saying := defZ_mk X Gn a4 l4 c4 k4 (fun _ _ _ _ _ _ us hl => match us, hl with | [_, _], _ => rfl)
      djoined := defZ_mk X Gn a5 l5 c5 k5 (fun _ _ _ _ _ _ us hl => match us, hl with | [_, _], _ => rfl)
      dheard := defZ_mk X Gn a6 l6 c6 k6 (fun _ _ _ _ _ _ us hl => match us, hl with | [_, _, _], _ => rfl)
      ddone := defZ_mk X Gn a7 l7 c7 k7 (fun _ _ _ _ _ _ us hl => match us, hl with | [_, _, _], _ => rfl)
      didle_in := defZ_mk X Gn a8 l8 c8 k8 (fun _ _ _ _ _ _ us hl => match us, hl with | [_, _, _], _ => rfl)
      d_law_box := defZ_mk X Gn a9 l9 c9 k9 (fun _ _ _ _ _ _ us hl => match us, hl with | [_, _], _ => rfl)
      d_law_take := defZ_mk X Gn a10 l10 c10 k10 (fun _ _ _ _ _ _ us hl => match us, hl with | [_, _], _ => rfl)
      d_law_folded := defZ_mk X Gn a11 l11 c11 k11 (fun _ _ _ _ _ _ us hl => match us, hl with | [_, _], _ => rfl)
      d_law_same := defZ_mk X Gn a12 l12 c12 k12 (fun _ _ _ _ _ _ us hl => match us, hl with | [_, _], _ => rfl)
      d_law_of := defZ_mk X Gn a13 l13 c13 k13 (fun _ _ _ _ _ _ us hl => match us, hl with | [_, _], _ => rfl)
      d_law_strewn := defZ_mk X Gn a14 l14 c14 k14 (fun _ _ _ _ _ _ us hl => match us, hl with | [_, _], _ => rfl)
      d_law_names := defZ_mk X Gn a15 l15 c15 k15 (fun _ _ _ _ _ _ us hl => match us, hl with | [_, _], _ => rfl)
      d_law_tree := defZ_mk X Gn a16 l16 c16 k16 (fun _ _ _ _ _ _ us hl => match us, hl with | [_, _, _], _ => rfl)
      d_law_tied := defZ_mk X Gn a17 l17 c17 k17 (fun _ _ _ _ _ _ us hl => match us, hl with | [_, _, _], _ => rfl)
      d_law_spoke := defZ_mk X Gn a18 l18 c18 k18 (fun _ _ _ _ _ _ us hl => match us, hl with | [_, _, _], _ => rfl)
      d_law_own := defZ_mk X Gn a19 l19 c19 k19 (fun _ _ _ _ _ _ us hl => match us, hl with | [_], _ => rfl)
      d_law_row := defZ_mk X Gn a20 l20 c20 k20 (fun _ _ _ _ _ _ us hl => match us, hl with | [_, _, _], _ => rfl)
      d_law_any_stand := defZ_mk X Gn a21 l21 c21 k21 (fun _ _ _ _ _ _ us hl => match us, hl with | [_, _], _ => rfl)
      d_law_lists := defZ_mk X Gn a22 l22 c22 k22 (fun _ _ _ _ _ _ us hl => match us, hl with | [_], _ => rfl)
      d_law_told := defZ_mk X Gn a23 l23 c23 k23 (fun _ _ _ _ _ _ us hl => match us, hl with | [_], _ => rfl)
      d_law_row_right := defZ_mk X Gn a24 l24 c24 k24 (fun _ _ _ _ _ _ us hl => match us, hl with | [_, _, _], _ => rfl)
      l_law_row_right := defL_mk X Gn a24 l24 c24 k24 (fun _ _ _ _ _ _ us hl => match us, hl with | [_, _, _], _ => rfl) (tab_mk a24 l24 q1 r1 s1) (TB _ List.mem_cons_self) List.mem_cons_self (List.forall_mem_cons.mpr ⟨(fun q => rfl), (fun _ z => nomatch z)⟩)
      d_law_right := defZ_mk X Gn a25 l25 c25 k25 (fun _ _ _ _ _ _ us hl => match us, hl with | [_], _ => rfl)
      dlaw := defZ_mk X Gn a26 l26 c26 k26 (fun _ _ _ _ _ _ us hl => match us, hl with | [_], _ => rfl)
      cNoName := PySem.W.mg_of X Gn eaNoName
      rNoName := rNoName (clsX_mk X Gn eaNoName xLNoName oxNoName iCNoName tINoName lINoName cINoName kINoName (fun _ _ _ _ _ _ us hl => match us, hl with | [_, _], _ => rfl)) (PySem.W.mg_none_of X Gn zzLookupError)
      cNoTie := PySem.W.mg_of X Gn eaNoTie
      rNoTie := rNoTie (clsX_mk X Gn eaNoTie xLNoTie oxNoTie iCNoTie tINoTie lINoTie cINoTie kINoTie (fun _ _ _ _ _ _ us hl => match us, hl with | [_, _], _ => rfl)) (PySem.W.mg_none_of X Gn zzLookupError)
      xLookupError := PySem.W.mg_none_of X Gn zzLookupError
      xf := xkB_ok xx
      fname := fdB_ok fdname
      fsaying := fdB_ok fdsaying
      xm_law_told := exB_ok xm_law_told }
    exact law_at T (fun_mk l26 c26 k26)
end Z
open PySem PySem.W PyProof.Rows
set_option maxRecDepth 100000 in
set_option maxHeartbeats 0 in
theorem PySem.Challenge.cw_eartree_k06_rows_of_sayings_holds : PySem.Challenge.rw_eartree_k06_rows_of_sayings.Holds := by
  w_on; o_law; k_head; (case hw => w_witness2)
  k_fill
  refine Z.walk_T (l := PySem.Challenge.rw_eartree_k06_rows_of_sayings) (n := 63) (k := 16) (x := "_law_script") ["_law_row_right"] ?M9 rfl (by decide) rfl ⟨rfl, by decide, by decide⟩ (fun w h Y => PySem.W.km_in_of Y) ?F9
  case M9 => exact List.forall_mem_cons.mpr ⟨Option.isSome_iff_exists.mp (by kernel_rfl), (fun _ z => nomatch z)⟩
  case F9 =>
    intro w mg fa h KX G hmg
    refine' Z.all_mk KX G hmg ?a1 ?l1 ?c1 ?k1 ?a2 ?l2 ?c2 ?k2 ?a3 ?l3 ?c3 ?k3 ?a4 ?l4 ?c4 ?k4 ?a5 ?l5 ?c5 ?k5 ?a6 ?l6 ?c6 ?k6 ?a7 ?l7 ?c7 ?k7 ?a8 ?l8 ?c8 ?k8 ?a9 ?l9 ?c9 ?k9 ?a10 ?l10 ?c10 ?k10 ?a11 ?l11 ?c11 ?k11 ?a12 ?l12 ?c12 ?k12 ?a13 ?l13 ?c13 ?k13 ?a14 ?l14 ?c14 ?k14 ?a15 ?l15 ?c15 ?k15 ?a16 ?l16 ?c16 ?k16 ?a17 ?l17 ?c17 ?k17 ?a18 ?l18 ?c18 ?k18 ?a19 ?l19 ?c19 ?k19 ?a20 ?l20 ?c20 ?k20 ?a21 ?l21 ?c21 ?k21 ?a22 ?l22 ?c22 ?k22 ?a23 ?l23 ?c23 ?k23 ?a24 ?l24 ?c24 ?k24 ?a25 ?l25 ?c25 ?k25 ?a26 ?l26 ?c26 ?k26 ?q1 ?r1 ?s1 ?n1 ?z1 ?z2 ?z3 ?z4 ?z5 ?z6 ?z7 ?z8 ?z9 ?z10 ?z11 ?z12 ?z13 ?z14 ?z15 ?z16 ?z17 ?z18 ?z19 ?z20 ?z21 ?zzLookupError ?eaNoName ?xLNoName ?oxNoName ?iCNoName ?tINoName ?lINoName ?cINoName ?kINoName ?eaNoTie ?xLNoTie ?oxNoTie ?iCNoTie ?tINoTie ?lINoTie ?cINoTie ?kINoTie ?xx ?fdname ?fdsaying ?xm_law_told
    (case a1 => k_is)
    (case l1 => k_is)
    (case c1 => k_is)
    (case k1 => k_is)
    (case a2 => k_is)
    (case l2 => k_is)
    (case c2 => k_is)
    (case k2 => k_is)
    (case a3 => k_is)
    (case l3 => k_is)
    (case c3 => k_is)
    (case k3 => k_is)
    (case a4 => k_is)
    (case l4 => k_is)
    (case c4 => k_is)
    (case k4 => k_is)
    (case a5 => k_is)
    (case l5 => k_is)
    (case c5 => k_is)
    (case k5 => k_is)
    (case a6 => k_is)
    (case l6 => k_is)
    (case c6 => k_is)
    (case k6 => k_is)
    (case a7 => k_is)
    (case l7 => k_is)
    (case c7 => k_is)
    (case k7 => k_is)
    (case a8 => k_is)
    (case l8 => k_is)
    (case c8 => k_is)
    (case k8 => k_is)
    (case a9 => k_is)
    (case l9 => k_is)
    (case c9 => k_is)
    (case k9 => k_is)
    (case a10 => k_is)
    (case l10 => k_is)
    (case c10 => k_is)
    (case k10 => k_is)
    (case a11 => k_is)
    (case l11 => k_is)
    (case c11 => k_is)
    (case k11 => k_is)
    (case a12 => k_is)
    (case l12 => k_is)
    (case c12 => k_is)
    (case k12 => k_is)
    (case a13 => k_is)
    (case l13 => k_is)
    (case c13 => k_is)
    (case k13 => k_is)
    (case a14 => k_is)
    (case l14 => k_is)
    (case c14 => k_is)
    (case k14 => k_is)
    (case a15 => k_is)
    (case l15 => k_is)
    (case c15 => k_is)
    (case k15 => k_is)
    (case a16 => k_is)
    (case l16 => k_is)
    (case c16 => k_is)
    (case k16 => k_is)
    (case a17 => k_is)
    (case l17 => k_is)
    (case c17 => k_is)
    (case k17 => k_is)
    (case a18 => k_is)
    (case l18 => k_is)
    (case c18 => k_is)
    (case k18 => k_is)
    (case a19 => k_is)
    (case l19 => k_is)
    (case c19 => k_is)
    (case k19 => k_is)
    (case a20 => k_is)
    (case l20 => k_is)
    (case c20 => k_is)
    (case k20 => k_is)
    (case a21 => k_is)
    (case l21 => k_is)
    (case c21 => k_is)
    (case k21 => k_is)
    (case a22 => k_is)
    (case l22 => k_is)
    (case c22 => k_is)
    (case k22 => k_is)
    (case a23 => k_is)
    (case l23 => k_is)
    (case c23 => k_is)
    (case k23 => k_is)
    (case a24 => k_is)
    (case l24 => k_is)
    (case c24 => k_is)
    (case k24 => k_is)
    (case a25 => k_is)
    (case l25 => k_is)
    (case c25 => k_is)
    (case k25 => k_is)
    (case a26 => k_is)
    (case l26 => k_is)
    (case c26 => k_is)
    (case k26 => k_is)
    (case q1 => exact rfl)
    (case r1 => k_is)
    (case s1 => exact rfl)
    (case n1 => first | k_is | kernel_rfl)
    (case z1 => k_is)
    (case z2 => k_is)
    (case z3 => k_is)
    (case z4 => k_is)
    (case z5 => k_is)
    (case z6 => k_is)
    (case z7 => k_is)
    (case z8 => k_is)
    (case z9 => k_is)
    (case z10 => k_is)
    (case z11 => k_is)
    (case z12 => k_is)
    (case z13 => k_is)
    (case z14 => k_is)
    (case z15 => k_is)
    (case z16 => k_is)
    (case z17 => k_is)
    (case z18 => k_is)
    (case z19 => k_is)
    (case z20 => k_is)
    (case z21 => k_is)
    (case zzLookupError => k_is)
    (case eaNoName => k_is)
    (case xLNoName => k_is)
    (case oxNoName => kernel_rfl)
    (case iCNoName => k_is)
    (case tINoName => k_is)
    (case lINoName => k_is)
    (case cINoName => k_is)
    (case kINoName => k_is)
    (case eaNoTie => k_is)
    (case xLNoTie => k_is)
    (case oxNoTie => kernel_rfl)
    (case iCNoTie => k_is)
    (case tINoTie => k_is)
    (case lINoTie => k_is)
    (case cINoTie => k_is)
    (case kINoTie => k_is)
    (case xx => kernel_rfl)
    (case fdname => kernel_rfl)
    (case fdsaying => kernel_rfl)
    (case xm_law_told => kernel_rfl)
