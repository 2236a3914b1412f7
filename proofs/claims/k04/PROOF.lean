import PyProof.Rows.All
import Wide.All
import OpenK.AllK
import Wide.FinOn
import HandS.ForMost
import HandS.ExcIs
import HandS.ExcField
import KE.KeyNested
import KE.KDictKeyed
import HandS.Exc
import HandS.ExcOwn
import HandS.TupAny
import HandS.Wide
import HandS.IsInst
import HandS.Deep
import HandS.RaiseMore
import HandS.SetKeys
import HandS.ForExc
import KE.KExcIs
import HandS.Small
import HandS.TupLen
import HandS.Zip
import HandS.Rev
import HandS.RevRange
import PyProof.StrOps2
import KE.GoesEnum
import KE.KDictPairs
import HandS.More
import HandS.Dict
import KE.SortData
import KE.KDictDisplayH
import KE.KDictZip
import KE.GoesMore
import PyProof.Rows.StrJoinMade
import PyProof.Rows.StrIntSpec
import KE.KEqDict
import PyProof.DictFindH
import HandS.TupLe
import HandS.Style
import PyProof.EnumMake
import KE.KTryMore
import HandS.ExcInit
import KE.DataFind
import HandS.Iter
import PyProof.LongRange
import HandS.SetFor
import HandS.Strs
import KE.KEqNest
import HandS.ExcValue
import HandS.EndBits
import PySem.Challenge.RW_calm_k04_refusals
set_option Elab.async false
set_option linter.all false
section
set_option maxRecDepth 100000
set_option autoImplicit false
/-! Data as trees, over the hand layer. -/
namespace Dt
open PySem PySem.Spec L2

/-- a key of a dict -/
inductive DK where
  | int (i : Int) | str (x : Str) | tup (ks : List DK)
/-- data: what a value is worth, as a tree (dic true: its keys are tuples) -/
inductive D where
  | non | bl (b : Bool) | int (i : Int) | str (x : Str)
  | tup (ds : List D) | lst (ds : List D) | dic (t : Bool) (kvs : List (DK × D)) | scr (ns : List Int)
  | nst (kvs : List (NestedKey × D))
  | exc (c f : Str) (C : Addr) (d : D)
instance : Inhabited D := ⟨.non⟩

def ofKey : Key → DK
  | .inl i => .int i
  | .inr x => .str x
def ofKeys (ks : List Key) : DK := .tup (ks.map ofKey)

/-- a list that stands for ever -/
def SqF (H : Hp) (a : Addr) (xs : List V) : Prop := ∃ o, H a = some (.frz o (.lst xs))
theorem SqF.sql {K : PySem.W.Frag} {H : Hp} {a : Addr} {xs : List V} (h : SqF H a xs) : SqL K H a xs := by
  obtain ⟨o, h⟩ := h
  exact .inl (.inr ⟨o, h⟩)

/-- the script: a list of ints that stands for ever, perhaps the module's own -/
def SqS (K : PySem.W.Frag) (H : Hp) (a : Addr) (xs : List V) : Prop := SqF H a xs ∨ SqL K (fun _ => none) a xs
theorem SqS.sql {K : PySem.W.Frag} {H : Hp} {a : Addr} {xs : List V} (h : SqS K H a xs) : SqL K H a xs := by
  rcases h with h | h
  · exact h.sql
  · rcases h with (h | ⟨o, h⟩) | h
    · cases h
    · cases h
    · exact .inr h
/-- tuples that may be keys: they are tracked -/
def keyT : List D → Bool
  | [.str _, .int _] => true
  | [.str a, .str _] => decide (a ≠ ("label" : Str))
  | _ => false
/-- a pair of a text and a whole number; tuples of such pairs are known to have no dict of their own -/
def wordsP : List Str := ["most", "rest", "at", "and", "or", "not", "sum", "cut"]
def isPr : D → Bool
  | .tup [.str _, .int _] => true
  | .tup [.str w, .tup _] => !(wordsP.contains w)
  | _ => false
def pairsT (ds : List D) : Bool := ds.all isPr
section
variable (K : PySem.W.Frag) (H : Hp)
mutual
/-- the value v is the nested key: whole numbers, tuples of such -/
def KeyAt : NestedKey → V → Prop
  | .num i, v => v = .int i
  | .tup ks, v => ∃ a xs, v = .ref a ∧ SqT K H a xs ∧ KeyAlls ks xs
  | .none, _ => False
  | .text _, _ => False
def KeyAlls : List NestedKey → List V → Prop
  | [], xs => xs = []
  | k :: ks, xs => ∃ x r, xs = x :: r ∧ KeyAt k x ∧ KeyAlls ks r
end
end
mutual
/-- the hash of such a key -/
def hashI : NestedKey → Int
  | .none => 0
  | .text _ => 0
  | .num i => hashInt i
  | .tup ks => reduceHash (Builtin.Tuple.tupleHashOf (hashIs ks))
def hashIs : List NestedKey → List Int
  | [] => []
  | k :: ks => hashI k :: hashIs ks
end
/-- the object of a dict whose keys are nested -/
def NRaw (a : Addr) (es : List (NestedKey × Addr × V)) : HO := .ext fun h => (a == sysModules) = false ∧ ∃ vs : List (NestedKey × Addr × Value), Paired (fun (p : NestedKey × Addr × V) (q : NestedKey × Addr × Value) => p.1 = q.1 ∧ p.2.1 = q.2.1 ∧ RelV p.2.2 q.2.2) es vs ∧
  ∃ o ar ep, h.get? a = some o ∧ o.ExactDict ∧ o.data = .dict ar ep ∧ ar.toList = vs.map (fun x => (⟨hashI x.1, .ref x.2.1, x.2.2⟩ : DictEntry)) ∧ (vs.map (·.1)).Nodup
/-- an own class of exceptions with one field, as far as its objects are asked -/
structure ExK (K : PySem.W.Frag) (C : Addr) (f : Str) : Prop where
  xf : XfC K C
  ic : ExcC K C
  noF : PySem.W.findIn K (.ref C) f = some none
  tys : ∀ T ∈ ["bool", "int", "str", "tuple", "list", "dict"], PySem.W.kitOne K (.ref C) (.type T) = some false
def uT : HO := .ext fun _ => True
section
variable (K : PySem.W.Frag) (H : Hp)
mutual
/-- the value v is worth d, now and for ever -/
def At : D → V → Prop
  | .non, v => v = .non
  | .bl b, v => v = .bl b
  | .int i, v => v = .int i
  | .str x, v => v = .str x
  | .tup ds, v => ∃ a xs, v = .ref a ∧ (SqT K H a xs ∧ (keyT ds = true → H a = some (.tup xs)) ∧ (pairsT ds = true → ∃ ob : Obj, ob.dict = none ∧ (H a = some (.frz ob (.tup xs)) ∨ K.lookup a = some ob))) ∧ AtAll ds xs
  | .lst ds, v => ∃ a xs, v = .ref a ∧ SqF H a xs ∧ AtAll ds xs
  | .scr ns, v => ∃ a, v = .ref a ∧ SqS K H a (ns.map V.int)
  | .dic false kvs, v => ∃ a o, v = .ref a ∧ ∃ es : List (Key × V), H a = some (.frz o (.dK es)) ∧ AtK kvs es
  | .dic true kvs, v => ∃ a o, v = .ref a ∧ ∃ es : List (List Key × V), H a = some (.frz o (.dT es)) ∧ AtT kvs es
  | .nst kvs, v => ∃ a o, v = .ref a ∧ ∃ es : List (NestedKey × Addr × V), H a = some (.frz o (NRaw a es)) ∧ AtN kvs es
  | .exc c f C d, v => ∃ (a dx : Addr) (oe : Obj) (y : V), v = .ref a ∧ ((ExK K C f ∧ H a = some (.frz oe uT)) ∧ (oe.cls = .ref C ∧ oe.dict = some dx ∧ ∃ vs, oe.data = .fields vs) ∧ H dx = some (.xd [(f, y)])) ∧ At d y
def AtAll : List D → List V → Prop
  | [], xs => xs = []
  | d :: ds, xs => ∃ x r, xs = x :: r ∧ At d x ∧ AtAll ds r
def AtK : List (DK × D) → List (Key × V) → Prop
  | [], es => es = []
  | (k, d) :: r, es => ∃ k' x r', es = (k', x) :: r' ∧ k = ofKey k' ∧ At d x ∧ AtK r r'
def AtT : List (DK × D) → List (List Key × V) → Prop
  | [], es => es = []
  | (k, d) :: r, es => ∃ k' x r', es = (k', x) :: r' ∧ (k = ofKeys k' ∧ k' ≠ []) ∧ At d x ∧ AtT r r'
def AtN : List (NestedKey × D) → List (NestedKey × Addr × V) → Prop
  | [], es => es = []
  | (k, d) :: r, es => ∃ b x r', es = (k, b, x) :: r' ∧ (KeyAt K H k (.ref b) ∧ k.depth ≤ 8) ∧ At d x ∧ AtN r r'
end
end

/-- what data lean on stays -/
structure Ext (H H' : Hp) : Prop where
  tup : ∀ a xs, H a = some (.tup xs) → H' a = some (.tup xs)
  frz : ∀ a o u, H a = some (.frz o u) → H' a = some (.frz o u)
  xd : ∀ a fs, H a = some (.xd fs) → H' a = some (.xd fs)
theorem Ext.refl (H : Hp) : Ext H H := ⟨fun _ _ h => h, fun _ _ _ h => h, fun _ _ h => h⟩
theorem Ext.trans {H H1 H2 : Hp} (a : Ext H H1) (b : Ext H1 H2) : Ext H H2 :=
  ⟨fun c xs h => b.tup c xs (a.tup c xs h), fun c o u h => b.frz c o u (a.frz c o u h), fun c fs h => b.xd c fs (a.xd c fs h)⟩
theorem SqT.ext {K : PySem.W.Frag} {H H' : Hp} {a : Addr} {xs : List V} (h : SqT K H a xs) (e : Ext H H') : SqT K H' a xs := by
  rcases h with (h | ⟨o, h⟩) | h
  · exact .inl (.inl (e.tup _ _ h))
  · exact .inl (.inr ⟨o, e.frz _ _ _ h⟩)
  · exact .inr h
theorem SqF.ext {H H' : Hp} {a : Addr} {xs : List V} (h : SqF H a xs) (e : Ext H H') : SqF H' a xs := by
  obtain ⟨o, h⟩ := h
  exact ⟨o, e.frz _ _ _ h⟩
theorem SqS.ext {K : PySem.W.Frag} {H H' : Hp} {a : Addr} {xs : List V} (h : SqS K H a xs) (e : Ext H H') : SqS K H' a xs := h.imp (fun z => SqF.ext z e) id
section
variable {K : PySem.W.Frag} {H H' : Hp}
mutual
theorem KeyAt.ext (e : Ext H H') : ∀ (k : NestedKey) (v : V), KeyAt K H k v → KeyAt K H' k v
  | .num i, v, h => by unfold KeyAt at h ⊢; exact h
  | .tup ks, v, h => by
    unfold KeyAt at h ⊢
    obtain ⟨a, xs, rfl, h1, h2⟩ := h
    exact ⟨a, xs, rfl, SqT.ext h1 e, KeyAlls.ext e ks xs h2⟩
  | .none, v, h => by unfold KeyAt at h; exact h.elim
  | .text _, v, h => by unfold KeyAt at h; exact h.elim
theorem KeyAlls.ext (e : Ext H H') : ∀ (ks : List NestedKey) (xs : List V), KeyAlls K H ks xs → KeyAlls K H' ks xs
  | [], xs, h => by unfold KeyAlls at h ⊢; exact h
  | k :: ks, xs, h => by
    unfold KeyAlls at h ⊢
    obtain ⟨x, r, rfl, h1, h2⟩ := h
    exact ⟨x, r, rfl, KeyAt.ext e k x h1, KeyAlls.ext e ks r h2⟩
end
mutual
theorem At.ext (e : Ext H H') : ∀ (d : D) (v : V), At K H d v → At K H' d v
  | .non, v, h => h
  | .bl b, v, h => h
  | .int i, v, h => h
  | .str x, v, h => h
  | .tup ds, v, h => by
    unfold At at h ⊢
    obtain ⟨a, xs, rfl, h1, h2⟩ := h
    exact ⟨a, xs, rfl, ⟨SqT.ext h1.1 e, fun k => e.tup _ _ (h1.2.1 k), fun k => let ⟨ob, n, q⟩ := h1.2.2 k; ⟨ob, n, q.imp (e.frz _ _ _) id⟩⟩, AtAll.ext e ds xs h2⟩
  | .lst ds, v, h => by
    unfold At at h ⊢
    obtain ⟨a, xs, rfl, h1, h2⟩ := h
    exact ⟨a, xs, rfl, SqF.ext h1 e, AtAll.ext e ds xs h2⟩
  | .scr ns, v, h => by
    unfold At at h ⊢
    obtain ⟨a, rfl, h1⟩ := h
    exact ⟨a, rfl, h1.ext e⟩
  | .dic false kvs, v, h => by
    unfold At at h ⊢
    obtain ⟨a, o, rfl, es, h1, h2⟩ := h
    exact ⟨a, o, rfl, es, e.frz _ _ _ h1, AtK.ext e kvs es h2⟩
  | .dic true kvs, v, h => by
    unfold At at h ⊢
    obtain ⟨a, o, rfl, es, h1, h2⟩ := h
    exact ⟨a, o, rfl, es, e.frz _ _ _ h1, AtT.ext e kvs es h2⟩
  | .nst kvs, v, h => by
    unfold At at h ⊢
    obtain ⟨a, o, rfl, es, h1, h2⟩ := h
    exact ⟨a, o, rfl, es, e.frz _ _ _ h1, AtN.ext e kvs es h2⟩
  | .exc c f C d, v, h => by
    unfold At at h ⊢
    obtain ⟨a, dx, oe, y, rfl, ⟨⟨h1, h2⟩, h3, h4⟩, h5⟩ := h
    exact ⟨a, dx, oe, y, rfl, ⟨⟨h1, e.frz _ _ _ h2⟩, h3, e.xd _ _ h4⟩, At.ext e d y h5⟩
theorem AtAll.ext (e : Ext H H') : ∀ (ds : List D) (xs : List V), AtAll K H ds xs → AtAll K H' ds xs
  | [], xs, h => by unfold AtAll at h ⊢; exact h
  | d :: ds, xs, h => by
    unfold AtAll at h ⊢
    obtain ⟨x, r, rfl, h1, h2⟩ := h
    exact ⟨x, r, rfl, At.ext e d x h1, AtAll.ext e ds r h2⟩
theorem AtK.ext (e : Ext H H') : ∀ (ds : List (DK × D)) (xs : List (Key × V)), AtK K H ds xs → AtK K H' ds xs
  | [], xs, h => by unfold AtK at h ⊢; exact h
  | (k, d) :: ds, xs, h => by
    unfold AtK at h ⊢
    obtain ⟨k', x, r, rfl, h0, h1, h2⟩ := h
    exact ⟨k', x, r, rfl, h0, At.ext e d x h1, AtK.ext e ds r h2⟩
theorem AtT.ext (e : Ext H H') : ∀ (ds : List (DK × D)) (xs : List (List Key × V)), AtT K H ds xs → AtT K H' ds xs
  | [], xs, h => by unfold AtT at h ⊢; exact h
  | (k, d) :: ds, xs, h => by
    unfold AtT at h ⊢
    obtain ⟨k', x, r, rfl, h0, h1, h2⟩ := h
    exact ⟨k', x, r, rfl, h0, At.ext e d x h1, AtT.ext e ds r h2⟩
theorem AtN.ext (e : Ext H H') : ∀ (ds : List (NestedKey × D)) (xs : List (NestedKey × Addr × V)), AtN K H ds xs → AtN K H' ds xs
  | [], xs, h => by unfold AtN at h ⊢; exact h
  | (k, d) :: ds, xs, h => by
    unfold AtN at h ⊢
    obtain ⟨b, x, r, rfl, h0, h1, h2⟩ := h
    exact ⟨b, x, r, rfl, ⟨KeyAt.ext e k _ h0.1, h0.2⟩, At.ext e d x h1, AtN.ext e ds r h2⟩
end
end
end Dt

end
section
set_option maxRecDepth 100000
set_option autoImplicit false
namespace Dt
abbrev Sl := L2.St
open PySem PySem.Spec L2

/-- what a slot is worth: data that stay, or an object of one's own -/
inductive RV where
  | val (d : D) | own (d : D)
def RV.isOwn : RV → Bool
  | .val _ => false
  | .own _ => true
abbrev DSt := List (Option RV)

def OwnAt (K : PySem.W.Frag) (H : Hp) (a : Addr) (d : D) : Prop := match d with
  | .lst ds => ∃ xs, H a = some (.lst xs) ∧ AtAll K H ds xs
  | .dic false kvs => ∃ es : List (Key × V), H a = some (.dK es) ∧ AtK K H kvs es
  | .dic true kvs => ∃ es : List (List Key × V), H a = some (.dT es) ∧ AtT K H kvs es
  | .nst kvs => ∃ es : List (NestedKey × Addr × V), H a = some (NRaw a es) ∧ AtN K H kvs es
  | _ => False
def RvAt (K : PySem.W.Frag) (H : Hp) (v : V) : RV → Prop
  | .val d => At K H d v
  | .own d => ∃ a, v = .ref a ∧ OwnAt K H a d
theorem OwnAt.mut {K : PySem.W.Frag} {H : Hp} {a : Addr} {d : D} (h : OwnAt K H a d) : ∃ o, H a = some o ∧ Mut (some o) ∧ (∀ xs, o ≠ .tup xs) ∧ (∀ q u, o ≠ .frz q u) := by
  unfold OwnAt at h
  split at h
  · obtain ⟨xs, h, _⟩ := h
    exact ⟨_, h, trivial, (fun _ z => nomatch z), (fun _ _ z => nomatch z)⟩
  · obtain ⟨xs, h, _⟩ := h
    exact ⟨_, h, trivial, (fun _ z => nomatch z), (fun _ _ z => nomatch z)⟩
  · obtain ⟨xs, h, _⟩ := h
    exact ⟨_, h, trivial, (fun _ z => nomatch z), (fun _ _ z => nomatch z)⟩
  · obtain ⟨xs, h, _⟩ := h
    exact ⟨_, h, trivial, (fun _ z => nomatch z), (fun _ _ z => nomatch z)⟩
  · exact h.elim
theorem OwnAt.ext {K : PySem.W.Frag} {H H' : Hp} {a : Addr} {d : D} (h : OwnAt K H a d) (e : Ext H H') (s : ∀ o, H a = some o → H' a = some o) : OwnAt K H' a d := by
  unfold OwnAt at h ⊢
  split at h
  · obtain ⟨xs, h, q⟩ := h
    exact ⟨xs, s _ h, AtAll.ext e _ _ q⟩
  · obtain ⟨xs, h, q⟩ := h
    exact ⟨xs, s _ h, AtK.ext e _ _ q⟩
  · obtain ⟨xs, h, q⟩ := h
    exact ⟨xs, s _ h, AtT.ext e _ _ q⟩
  · obtain ⟨xs, h, q⟩ := h
    exact ⟨xs, s _ h, AtN.ext e _ _ q⟩
  · exact h.elim

/-- every list, tuple, dict is within the line -/
structure Bounded (K : PySem.W.Frag) (H : Hp) : Prop where
  seq : ∀ a xs, SqL K H a xs ∨ SqT K H a xs → xs.length ≤ sizeLine
  dK : ∀ a (es : List (Key × V)), Rd H a (.dK es) → es.length ≤ sizeLine ∧ (es.map (·.1)).Nodup
  dT : ∀ a (es : List (List Key × V)), Rd H a (.dT es) → es.length ≤ sizeLine ∧ (es.map (·.1)).Nodup
/-- a new small tuple -/
theorem Bounded.newTup {K : PySem.W.Frag} {H : Hp} {p : Addr} {xs : List V} (b : Bounded K H) (hp : H p = none) (hl : xs.length ≤ sizeLine) : Bounded K (upd H p (.tup xs)) := by
  have rd : ∀ {a : Addr} {u : HO}, Rd (upd H p (.tup xs)) a u → (a = p ∧ u = .tup xs) ∨ Rd H a u := fun {a u} h => by
    by_cases e : a = p
    · subst e
      rcases h with h | ⟨o, h⟩
      · rw [upd_same] at h; cases h; exact .inl ⟨rfl, rfl⟩
      · rw [upd_same] at h; cases h
    · rcases h with h | ⟨o, h⟩
      · rw [upd_ne e] at h; exact .inr (.inl h)
      · rw [upd_ne e] at h; exact .inr (.inr ⟨o, h⟩)
  refine ⟨fun a ys h => ?_, fun a es h => ?_, fun a es h => ?_⟩
  · rcases h with (h | h) | (h | h)
    · rcases rd h with ⟨_, e⟩ | h
      · cases e
      · exact b.seq a ys (.inl (.inl h))
    · exact b.seq a ys (.inl (.inr h))
    · rcases rd h with ⟨_, e⟩ | h
      · cases e; exact hl
      · exact b.seq a ys (.inr (.inl h))
    · exact b.seq a ys (.inr (.inr h))
  · rcases rd h with ⟨_, e⟩ | h
    · cases e
    · exact b.dK a es h
  · rcases rd h with ⟨_, e⟩ | h
    · cases e
    · exact b.dT a es h

structure Rel0 (K : PySem.W.Frag) (σ : Sl) (H : Hp) (s : DSt) : Prop where
  len : s.length = σ.length
  ok : ∀ (i : Nat) (r : RV), s[i]? = some (some r) → ∃ v, σ[i]? = some (some v) ∧ RvAt K H v r
  sep : ∀ (i j : Nat) (r r' : RV) (a : Addr), s[i]? = some (some r) → s[j]? = some (some r') → r.isOwn = true → r'.isOwn = true → σ[i]? = some (some (.ref a)) → σ[j]? = some (some (.ref a)) → i = j
structure Rel (K : PySem.W.Frag) (σ : Sl) (H : Hp) (s : DSt) : Prop extends Rel0 K σ H s where
  bnd : Bounded K H
/-- the addresses of one's own objects -/
def OwnsA (σ : Sl) (s : DSt) (a : Addr) : Prop := ∃ (i : Nat) (r : RV), s[i]? = some (some r) ∧ r.isOwn = true ∧ σ[i]? = some (some (.ref a))
def noA : Addr → Prop := fun _ => False

/-- how the heap may have grown: A may have changed -/
structure Evo (A : Addr → Prop) (H H' : Hp) : Prop where
  keep : ∀ a o, H a = some o → ¬ A a → H' a = some o
  ext : Ext H H'
  free : ∀ a, H' a = none → H a = none
theorem Evo.refl {A : Addr → Prop} {H : Hp} : Evo A H H := ⟨fun _ _ h _ => h, Ext.refl H, fun _ h => h⟩
theorem Evo.trans {A B : Addr → Prop} {H H1 H2 : Hp} (a : Evo A H H1) (b : Evo B H1 H2) (h : ∀ c, B c → A c ∨ H c = none) : Evo A H H2 :=
  ⟨fun c o e n => b.keep c o (a.keep c o e n) fun z => (h c z).elim n (fun q => by rw [q] at e; cases e), a.ext.trans b.ext, fun c e => a.free c (b.free c e)⟩
theorem Evo.mono {A B : Addr → Prop} {H H' : Hp} (a : Evo A H H') (h : ∀ c, A c → B c) : Evo B H H' := ⟨fun c o e n => a.keep c o e fun z => n (h c z), a.ext, a.free⟩
theorem Evo.trans0 {A : Addr → Prop} {H H1 H2 : Hp} (a : Evo A H H1) (b : Evo noA H1 H2) : Evo A H H2 := a.trans b fun _ z => z.elim
/-- a new object -/
theorem Evo.new {A : Addr → Prop} {H : Hp} {p : Addr} {o : HO} (h : H p = none) : Evo A H (upd H p o) :=
  ⟨fun a u e _ => by rw [upd_ne (ne_of_none e h)]; exact e, ⟨fun a xs e => by rw [upd_ne (ne_of_none e h)]; exact e, fun a q u e => by rw [upd_ne (ne_of_none e h)]; exact e, fun a fs e => by rw [upd_ne (ne_of_none e h)]; exact e⟩,
    fun a e => by
      by_cases z : a = p
      · rw [z, upd_same] at e; cases e
      · rw [upd_ne z] at e; exact e⟩
/-- an object that changes -/
theorem Evo.write {A : Addr → Prop} {H : Hp} {p : Addr} {o u : HO} (h : H p = some u) (mu : Mut (some u)) (hA : A p) : Evo A H (upd H p o) := by
  have nt : ∀ xs, u ≠ .tup xs := fun xs z => by subst z; exact mu
  have nf : ∀ q v, u ≠ .frz q v := fun q v z => by subst z; exact mu
  have nx : ∀ fs, u ≠ .xd fs := fun fs z => by subst z; exact mu
  refine ⟨fun a v e n => ?_, ⟨fun a xs e => ?_, fun a q v e => ?_, fun a fs e => ?_⟩, fun a e => ?_⟩
  · rw [upd_ne (fun z => n (by rw [z]; exact hA))]; exact e
  · rw [upd_ne (fun z => by rw [z, h] at e; exact nt _ (Option.some.inj e))]; exact e
  · rw [upd_ne (fun z => by rw [z, h] at e; exact nf _ _ (Option.some.inj e))]; exact e
  · rw [upd_ne (fun z => by rw [z, h] at e; exact nx _ (Option.some.inj e))]; exact e
  · by_cases z : a = p
    · rw [z, upd_same] at e; cases e
    · rw [upd_ne z] at e; exact e

section
variable {K : PySem.W.Frag} {σ : Sl} {H H' : Hp} {s s' : DSt}
theorem Rel0.owned (R : Rel0 K σ H s) {a : Addr} (h : OwnsA σ s a) : ∃ d, OwnAt K H a d := by
  obtain ⟨i, r, h1, h2, h3⟩ := h
  obtain ⟨v, e, q⟩ := R.ok i r h1
  rw [h3] at e
  cases e
  cases r with
  | val d => cases h2
  | own d =>
    obtain ⟨b, e, q⟩ := q
    cases e
    exact ⟨d, q⟩
theorem Rel0.there (R : Rel0 K σ H s) {a : Addr} (h : OwnsA σ s a) : ∃ o, H a = some o ∧ Mut (some o) := by
  obtain ⟨d, q⟩ := R.owned h
  obtain ⟨o, h1, h2, _⟩ := q.mut
  exact ⟨o, h1, h2⟩
/-- a change elsewhere -/
theorem Rel0.evo {A : Addr → Prop} (R : Rel0 K σ H s) (e : Evo A H H') (hA : ∀ a, OwnsA σ s a → ¬ A a) : Rel0 K σ H' s := by
  refine ⟨R.len, fun i r hi => ?_, R.sep⟩
  obtain ⟨v, h1, h2⟩ := R.ok i r hi
  refine ⟨v, h1, ?_⟩
  cases r with
  | val d => exact At.ext e.ext d v h2
  | own d =>
    obtain ⟨a, rfl, q⟩ := h2
    exact ⟨a, rfl, q.ext e.ext fun o ho => e.keep a o ho (hA a ⟨i, _, hi, rfl, h1⟩)⟩
theorem Rel0.evo0 (R : Rel0 K σ H s) (e : Evo noA H H') : Rel0 K σ H' s := R.evo e fun _ _ z => z
end
/-- no slot becomes one's own -/
def Sub (s s' : DSt) : Prop := ∀ (i : Nat) (r' : RV), s'[i]? = some (some r') → r'.isOwn = true → ∃ r : RV, s[i]? = some (some r) ∧ r.isOwn = true
theorem Sub.refl (s : DSt) : Sub s s := fun i r h o => ⟨r, h, o⟩
theorem Sub.trans {s s1 s2 : DSt} (a : Sub s s1) (b : Sub s1 s2) : Sub s s2 := fun i r h o => let ⟨r1, h1, o1⟩ := b i r h o; a i r1 h1 o1
theorem Sub.owns {s s' : DSt} (a : Sub s s') {σ : Sl} {p : Addr} (h : OwnsA σ s' p) : OwnsA σ s p := by
  obtain ⟨i, r, h1, h2, h3⟩ := h
  obtain ⟨r0, e, o⟩ := a i r h1 h2
  exact ⟨i, r0, e, o, h3⟩

/-! ### the monad -/
inductive Res (α : Type) where
  | ok (a : α) | err (c : Str) (d : D)
abbrev M (α : Type) := DSt → Option (Res α × DSt)
def ret {α : Type} (a : α) : M α := fun s => some (.ok a, s)
def fail {α : Type} : M α := fun _ => none
def bnd {α β : Type} (m : M α) (f : α → M β) : M β := fun s => match m s with
  | none => none
  | some (.ok a, s') => f a s'
  | some (.err c d, s') => some (.err c d, s')
/-- a partial value -/
def lift {α : Type} (o : Option α) : M α := fun s => match o with
  | none => none
  | some a => some (.ok a, s)
theorem bnd_ret {α β : Type} (a : α) (f : α → M β) : bnd (ret a) f = f a := rfl
theorem bnd_some {α β : Type} {m : M α} {f : α → M β} {s s' : DSt} {a : α} (h : m s = some (.ok a, s')) : bnd m f s = f a s' := by
  unfold bnd; rw [h]

/-- how a class of exceptions stands: its address and its one field -/
abbrev EC := Str → Option (Addr × Str)
def ErrAt (K : PySem.W.Frag) (ec : EC) (H : Hp) (c : Str) (d : D) (cls : Value) (dx : Option Addr) : Prop :=
  ∃ C f a v, ec c = some (C, f) ∧ cls = .ref C ∧ dx = some a ∧ H a = some (.xd [(f, v)]) ∧ At K H d v

/-- a result's address is new where it is one's own -/
def RvNew (K : PySem.W.Frag) (H H' : Hp) (v : V) : RV → Prop
  | .val d => At K H' d v
  | .own d => ∃ a, v = .ref a ∧ H a = none ∧ OwnAt K H' a d

/-- what m has come to (o), and that k follows of it -/
def Post {β : Type} (K : PySem.W.Frag) (ec : EC) (E : L2.WX) (σ : Sl) (H : Hp) (s : DSt) (k : β → DSt → Hp → Prop) : Option (Res β × DSt) → Prop
  | none => False
  | some (.ok r, s') => ∀ H', Evo (OwnsA σ s) H H' → Rel K σ H' s' → Sub s s' → k r s' H'
  | some (.err c d, s') => ∀ cls dx H', Evo (OwnsA σ s) H H' → Rel K σ H' s' → Sub s s' → ErrAt K ec H' c d cls dx → E cls dx σ H'
/-- the same, the line's bound not asked at the end -/
def Post0 {β : Type} (K : PySem.W.Frag) (ec : EC) (E : L2.WX) (σ : Sl) (H : Hp) (s : DSt) (k : β → DSt → Hp → Prop) : Option (Res β × DSt) → Prop
  | none => False
  | some (.ok r, s') => ∀ H', Evo (OwnsA σ s) H H' → Rel0 K σ H' s' → Sub s s' → k r s' H'
  | some (.err c d, s') => ∀ cls dx H', Evo (OwnsA σ s) H H' → Rel K σ H' s' → Sub s s' → ErrAt K ec H' c d cls dx → E cls dx σ H'
section
variable {K : PySem.W.Frag} {ec : EC} {E : L2.WX} {σ : Sl} {H : Hp} {s : DSt} {α β : Type}
theorem Post.imp {k k' : β → DSt → Hp → Prop} {o : Option (Res β × DSt)} (h : Post K ec E σ H s k o) (i : ∀ r s' H', o = some (.ok r, s') → Evo (OwnsA σ s) H H' → Rel K σ H' s' → Sub s s' → k r s' H' → k' r s' H') : Post K ec E σ H s k' o := by
  cases o with
  | none => exact h
  | some p =>
    obtain ⟨r, s'⟩ := p
    cases r with
    | ok r => exact fun H' a b c => i r s' H' rfl a b c (h H' a b c)
    | err c d => exact h
theorem Post0.up {k : β → DSt → Hp → Prop} {o : Option (Res β × DSt)} (h : Post K ec E σ H s k o) : Post0 K ec E σ H s (fun r s' H' => Bounded K H' → k r s' H') o := by
  cases o with
  | none => exact h
  | some p =>
    obtain ⟨r, s'⟩ := p
    cases r with
    | ok r => exact fun H' a b c d => h H' a ⟨b, d⟩ c
    | err c d => exact h
theorem Post.later {k : β → DSt → Hp → Prop} {o : Option (Res β × DSt)} {s1 : DSt} {H1 : Hp} (h : Post K ec E σ H s k o) (e : Evo (OwnsA σ s) H H1) (S : Sub s s1) : Post K ec E σ H1 s1 k o := by
  cases o with
  | none => exact h
  | some p =>
    obtain ⟨r, s'⟩ := p
    cases r with
    | ok r => exact fun H' a b c => h H' (e.trans a fun _ z => .inl (S.owns z)) b (S.trans c)
    | err c d => exact fun cl dx H' a b c q => h cl dx H' (e.trans a fun _ z => .inl (S.owns z)) b (S.trans c) q
theorem Post0.later {k : β → DSt → Hp → Prop} {o : Option (Res β × DSt)} {s1 : DSt} {H1 : Hp} (h : Post0 K ec E σ H s k o) (e : Evo (OwnsA σ s) H H1) (S : Sub s s1) : Post0 K ec E σ H1 s1 k o := by
  cases o with
  | none => exact h
  | some p =>
    obtain ⟨r, s'⟩ := p
    cases r with
    | ok r => exact fun H' a b c => h H' (e.trans a fun _ z => .inl (S.owns z)) b (S.trans c)
    | err c d => exact fun cl dx H' a b c q => h cl dx H' (e.trans a fun _ z => .inl (S.owns z)) b (S.trans c) q
theorem Post.bnd {m : M α} {f : α → M β} {k : β → DSt → Hp → Prop} (h : Post K ec E σ H s k (Dt.bnd m f s)) : Post K ec E σ H s (fun r s1 H1 => Post K ec E σ H1 s1 k (f r s1)) (m s) := by
  unfold Dt.bnd at h
  cases e : m s with
  | none => rw [e] at h; exact h
  | some p =>
    obtain ⟨r, s'⟩ := p
    rw [e] at h
    cases r with
    | ok r => exact fun H' a b c => Post.later (show Post K ec E σ H s k (f r s') from h) a c
    | err c d => exact h
theorem Post0.bnd {m : M α} {f : α → M β} {k : β → DSt → Hp → Prop} (h : Post0 K ec E σ H s k (Dt.bnd m f s)) : Post K ec E σ H s (fun r s1 H1 => Post0 K ec E σ H1 s1 k (f r s1)) (m s) := by
  unfold Dt.bnd at h
  cases e : m s with
  | none => rw [e] at h; exact h
  | some p =>
    obtain ⟨r, s'⟩ := p
    rw [e] at h
    cases r with
    | ok r => exact fun H' a b c => Post0.later (show Post0 K ec E σ H s k (f r s') from h) a c
    | err c d => exact h
/-- nothing more is done -/
theorem Post0.lift {k : β → DSt → Hp → Prop} {o : Option β} (h : Post0 K ec E σ H s k (Dt.lift o s)) : ∃ r, o = some r ∧ ∀ H', Evo (OwnsA σ s) H H' → Rel0 K σ H' s → k r s H' := by
  cases o with
  | none => exact h.elim
  | some r => exact ⟨r, rfl, fun H' a b => h H' a b (Sub.refl _)⟩
theorem Post0.ret {k : β → DSt → Hp → Prop} {r : β} (h : Post0 K ec E σ H s k (Dt.ret r s)) : ∀ H', Evo (OwnsA σ s) H H' → Rel0 K σ H' s → k r s H' := fun H' a b => h H' a b (Sub.refl _)
end

/-- an expression comes to m: γ is what the reading hands on (a value, a list of values, a truth), R what it is worth -/
def Comes {α γ : Type} (K : PySem.W.Frag) (ec : EC) (E : L2.WX) (R : Sl → Hp → Hp → γ → α → Prop) (m : M α) (t : Sl → Hp → (γ → Hp → Prop) → Prop) : Prop :=
  ∀ σ H s Q, Rel K σ H s → Post K ec E σ H s (fun r s' H' => ∀ g, R σ H H' g r → Q g H') (m s) → t σ H Q
def Comes0 {α γ : Type} (K : PySem.W.Frag) (ec : EC) (E : L2.WX) (R : Sl → Hp → Hp → γ → α → Prop) (m : M α) (t : Sl → Hp → (γ → Hp → Prop) → Prop) : Prop :=
  ∀ σ H s Q, Rel K σ H s → Post0 K ec E σ H s (fun r s' H' => ∀ g, R σ H H' g r → Q g H') (m s) → t σ H Q
abbrev RVal (K : PySem.W.Frag) : Sl → Hp → Hp → V → D → Prop := fun _ _ H' v d => At K H' d v
abbrev RNew (K : PySem.W.Frag) : Sl → Hp → Hp → V → RV → Prop := fun _ H H' v r => RvNew K H H' v r
abbrev RAll (K : PySem.W.Frag) : Sl → Hp → Hp → List V → List D → Prop := fun _ _ H' vs ds => AtAll K H' ds vs
abbrev RBl : Sl → Hp → Hp → Bool → Bool → Prop := fun _ _ _ b c => b = c

structure DV (X : Cx) (ec : EC) (E : L2.WX) (e : Expr) (m : M D) : Prop where
  run : ∃ t, PE X e t ∧ Comes X.K ec E (RVal X.K) m t
structure DR (X : Cx) (ec : EC) (E : L2.WX) (e : Expr) (m : M RV) : Prop where
  run : ∃ t, PE X e t ∧ Comes X.K ec E (RNew X.K) m t
structure DA (X : Cx) (ec : EC) (E : L2.WX) (es : List Expr) (m : M (List D)) : Prop where
  run : ∃ t, PA X es t ∧ Comes X.K ec E (RAll X.K) m t
structure DT (X : Cx) (ec : EC) (E : L2.WX) (e : Expr) (m : M Bool) : Prop where
  run : ∃ t, PT X e t ∧ Comes X.K ec E RBl m t

/-! ### the line -/
theorem kv_keys {κ : Type} : ∀ {a : List (κ × V)} {b : List (κ × Value)}, KV a b → a.map (·.1) = b.map (·.1)
  | _, _, .nil => rfl
  | _, _, .cons h t => by rw [List.map_cons, List.map_cons, h.1, kv_keys t]
theorem kt_keys {α κ : Type} {F : κ × V → κ × α → Prop} (hF : ∀ p q, F p q → p.1 = q.1) : ∀ {a : List (κ × V)} {b : List (κ × α)}, Paired F a b → a.map (·.1) = b.map (·.1)
  | _, _, .nil => rfl
  | _, _, .cons h t => by rw [List.map_cons, List.map_cons, hF _ _ h, kt_keys hF t]
theorem bounded_of {X : Cx} {pins : List (Addr × Obj)} {σ : Sl} {H : Hp} {s : Shared} (I : Inv X pins σ H s) : Bounded X.K H := ⟨fun a xs h => by
  rcases h with h | h
  · obtain ⟨_, _, _, z⟩ := I.list h; exact z
  · obtain ⟨_, _, _, z⟩ := I.tuple h; exact z, fun a es h => by
    obtain ⟨z, _, vs, kv, _, _, _, _, _, _, _, _, nd⟩ := h.ok I.hok
    exact ⟨z, by rw [kv_keys kv]; exact nd⟩, fun a es h => by
    obtain ⟨z, _, xs, kv, _, _, _, _, _, _, _, nd⟩ := h.ok I.hok
    exact ⟨z, by rw [kt_keys (fun _ _ q => q.1) kv]; exact nd⟩⟩
section
variable {X : Cx} {ec : EC} {E : L2.WX} {e : Expr} {es : List Expr}
theorem pe_bnd {t : TE} (h : PE X e t) : PE X e (fun σ H Q => t σ H fun v H' => Bounded X.K H' → Q v H') :=
  ⟨fun pins s σ H Q I hq => thn (h.run pins s σ H _ I hq) fun u s1 ⟨v, H1, I1, r, q⟩ => ⟨v, H1, I1, r, q (bounded_of I1)⟩⟩
theorem pt_bnd {t : TT} (h : PT X e t) : PT X e (fun σ H Q => t σ H fun v H' => Bounded X.K H' → Q v H') :=
  ⟨fun pins s σ H Q I hq => thn (h.run pins s σ H _ I hq) fun u s1 ⟨H1, I1, q⟩ => ⟨H1, I1, q (bounded_of I1)⟩⟩
theorem pa_bnd {t : TA} (h : PA X es t) : PA X es (fun σ H Q => t σ H fun v H' => Bounded X.K H' → Q v H') :=
  ⟨fun pos pins s σ H Q I hq => thn (h.run pos pins s σ H _ I hq) fun u s1 ⟨v, H1, I1, r, q⟩ => ⟨v, H1, I1, r, q (bounded_of I1)⟩⟩
theorem post_swap {α γ : Type} {K : PySem.W.Frag} {σ : Sl} {H : Hp} {s : DSt} {R : Sl → Hp → Hp → γ → α → Prop} {Q : γ → Hp → Prop} {o : Option (Res α × DSt)} (h : Post0 K ec E σ H s (fun r s' H' => Bounded K H' → ∀ g, R σ H H' g r → Q g H') o) :
    Post0 K ec E σ H s (fun r s' H' => ∀ g, R σ H H' g r → Bounded K H' → Q g H') o := by
  cases o with
  | none => exact h
  | some p =>
    obtain ⟨r, s'⟩ := p
    cases r with
    | ok r => exact fun H' a b c g hg d => h H' a b c d g hg
    | err c d => exact h
theorem Comes0.to {α γ : Type} {K : PySem.W.Frag} {R : Sl → Hp → Hp → γ → α → Prop} {m : M α} {t : Sl → Hp → (γ → Hp → Prop) → Prop} (h : Comes0 K ec E R m t) : Comes K ec E R m (fun σ H Q => t σ H fun v H' => Bounded K H' → Q v H') := fun σ H s Q hR hm =>
  h σ H s _ hR (post_swap (Post0.up hm))
theorem DV.mk0 {m : M D} {t : TE} (h : PE X e t) (hc : Comes0 X.K ec E (RVal X.K) m t) : DV X ec E e m := ⟨_, pe_bnd h, hc.to⟩
theorem DR.mk0 {m : M RV} {t : TE} (h : PE X e t) (hc : Comes0 X.K ec E (RNew X.K) m t) : DR X ec E e m := ⟨_, pe_bnd h, hc.to⟩
theorem DT.mk0 {m : M Bool} {t : TT} (h : PT X e t) (hc : Comes0 X.K ec E RBl m t) : DT X ec E e m := ⟨_, pt_bnd h, hc.to⟩
theorem DA.mk0 {m : M (List D)} {t : TA} (h : PA X es t) (hc : Comes0 X.K ec E (RAll X.K) m t) : DA X ec E es m := ⟨_, pa_bnd h, hc.to⟩
end
end Dt

end
section
set_option maxRecDepth 100000
set_option autoImplicit false
namespace Dt
open PySem PySem.Spec L2

def RV.d : RV → D
  | .val d => d
  | .own d => d

/-- the value v holds d as it stands -/
def Ct (K : PySem.W.Frag) (H : Hp) (v : V) (d : D) : Prop := At K H d v ∨ ∃ a, v = .ref a ∧ OwnAt K H a d
theorem RvAt.ct {K : PySem.W.Frag} {H : Hp} {v : V} {r : RV} (h : RvAt K H v r) : Ct K H v r.d := by
  cases r with
  | val d => exact .inl h
  | own d =>
    obtain ⟨a, e, q⟩ := h
    exact .inr ⟨a, e, q⟩
theorem At.ct {K : PySem.W.Frag} {H : Hp} {v : V} {d : D} (h : At K H d v) : Ct K H v d := .inl h
def CtAll (K : PySem.W.Frag) (H : Hp) : List V → List D → Prop
  | [], [] => True
  | v :: vs, d :: ds => Ct K H v d ∧ CtAll K H vs ds
  | _, _ => False
section
variable {K : PySem.W.Frag} {H H' : Hp} {v : V}
theorem OwnAt.no {a : Addr} {d : D} (h : OwnAt K H a d) : (∃ ds, d = .lst ds) ∨ (∃ t kvs, d = .dic t kvs) ∨ ∃ kvs, d = .nst kvs := by
  unfold OwnAt at h
  split at h
  · exact .inl ⟨_, rfl⟩
  · exact .inr (.inl ⟨_, _, rfl⟩)
  · exact .inr (.inl ⟨_, _, rfl⟩)
  · exact .inr (.inr ⟨_, rfl⟩)
  · exact h.elim
theorem Ct.non (h : Ct K H v .non) : v = .non := by
  rcases h with h | ⟨a, rfl, h⟩
  · exact h
  · rcases h.no with ⟨_, e⟩ | ⟨_, _, e⟩ | ⟨_, e⟩ <;> cases e
theorem Ct.bl {b : Bool} (h : Ct K H v (.bl b)) : v = .bl b := by
  rcases h with h | ⟨a, rfl, h⟩
  · exact h
  · rcases h.no with ⟨_, e⟩ | ⟨_, _, e⟩ | ⟨_, e⟩ <;> cases e
theorem Ct.int {i : Int} (h : Ct K H v (.int i)) : v = .int i := by
  rcases h with h | ⟨a, rfl, h⟩
  · exact h
  · rcases h.no with ⟨_, e⟩ | ⟨_, _, e⟩ | ⟨_, e⟩ <;> cases e
theorem Ct.str {x : Str} (h : Ct K H v (.str x)) : v = .str x := by
  rcases h with h | ⟨a, rfl, h⟩
  · exact h
  · rcases h.no with ⟨_, e⟩ | ⟨_, _, e⟩ | ⟨_, e⟩ <;> cases e
theorem Ct.tup {ds : List D} (h : Ct K H v (.tup ds)) : ∃ a xs, v = .ref a ∧ SqT K H a xs ∧ AtAll K H ds xs := by
  rcases h with h | ⟨a, rfl, h⟩
  · unfold At at h
    obtain ⟨a, xs, e, h1, h2⟩ := h
    exact ⟨a, xs, e, h1.1, h2⟩
  · rcases h.no with ⟨_, e⟩ | ⟨_, _, e⟩ | ⟨_, e⟩ <;> cases e
theorem Ct.tupAt {ds : List D} (h : Ct K H v (.tup ds)) : At K H (.tup ds) v := by
  rcases h with h | ⟨a, rfl, h⟩
  · exact h
  · rcases h.no with ⟨_, e⟩ | ⟨_, _, e⟩ | ⟨_, e⟩ <;> cases e
theorem Ct.lst {ds : List D} (h : Ct K H v (.lst ds)) : ∃ a xs, v = .ref a ∧ Rd H a (.lst xs) ∧ AtAll K H ds xs := by
  rcases h with h | ⟨a, rfl, h⟩
  · unfold At at h
    obtain ⟨a, xs, e, h1, h2⟩ := h
    exact ⟨a, xs, e, .inr h1, h2⟩
  · obtain ⟨xs, h1, h2⟩ := h
    exact ⟨a, xs, rfl, .inl h1, h2⟩
theorem Ct.scr {ns : List Int} (h : Ct K H v (.scr ns)) : ∃ a, v = .ref a ∧ SqS K H a (ns.map V.int) := by
  rcases h with h | ⟨a, rfl, h⟩
  · unfold At at h
    exact h
  · rcases h.no with ⟨_, e⟩ | ⟨_, _, e⟩ | ⟨_, e⟩ <;> cases e
theorem Ct.dicK {kvs : List (DK × D)} (h : Ct K H v (.dic false kvs)) : ∃ a, ∃ es : List (Key × V), v = .ref a ∧ Rd H a (.dK es) ∧ AtK K H kvs es := by
  rcases h with h | ⟨a, rfl, h⟩
  · unfold At at h
    obtain ⟨a, o, e, es, h1, h2⟩ := h
    exact ⟨a, es, e, .inr ⟨o, h1⟩, h2⟩
  · obtain ⟨xs, h1, h2⟩ := h
    exact ⟨a, xs, rfl, .inl h1, h2⟩
theorem Ct.dicT {kvs : List (DK × D)} (h : Ct K H v (.dic true kvs)) : ∃ a, ∃ es : List (List Key × V), v = .ref a ∧ Rd H a (.dT es) ∧ AtT K H kvs es := by
  rcases h with h | ⟨a, rfl, h⟩
  · unfold At at h
    obtain ⟨a, o, e, es, h1, h2⟩ := h
    exact ⟨a, es, e, .inr ⟨o, h1⟩, h2⟩
  · obtain ⟨xs, h1, h2⟩ := h
    exact ⟨a, xs, rfl, .inl h1, h2⟩
theorem Ct.exc {c f : Str} {C : Addr} {d : D} (h : Ct K H v (.exc c f C d)) : At K H (.exc c f C d) v := by
  rcases h with h | ⟨a, rfl, h⟩
  · exact h
  · rcases h.no with ⟨_, e⟩ | ⟨_, _, e⟩ | ⟨_, e⟩ <;> cases e
theorem Ct.exc1 {c f : Str} {C : Addr} {d : D} (h : Ct K H v (.exc c f C d)) : ∃ (a dx : Addr) (oe : Obj) (y : V), v = .ref a ∧ ((ExK K C f ∧ H a = some (.frz oe uT)) ∧ (oe.cls = .ref C ∧ oe.dict = some dx ∧ ∃ vs, oe.data = .fields vs) ∧ H dx = some (.xd [(f, y)])) ∧ At K H d y := by
  have h := h.exc
  unfold At at h
  exact h
theorem Ct.nst {kvs : List (NestedKey × D)} (h : Ct K H v (.nst kvs)) : ∃ a, ∃ es : List (NestedKey × Addr × V), v = .ref a ∧ Rd H a (NRaw a es) ∧ AtN K H kvs es := by
  rcases h with h | ⟨a, rfl, h⟩
  · unfold At at h
    obtain ⟨a, o, e, es, h1, h2⟩ := h
    exact ⟨a, es, e, .inr ⟨o, h1⟩, h2⟩
  · obtain ⟨xs, h1, h2⟩ := h
    exact ⟨a, xs, rfl, .inl h1, h2⟩
theorem Ct.dic {t : Bool} {kvs : List (DK × D)} (h : Ct K H v (.dic t kvs)) : ∃ a, v = .ref a ∧ ((∃ es : List (Key × V), Rd H a (.dK es)) ∨ ∃ es : List (List Key × V), Rd H a (.dT es)) := by
  cases t with
  | false => obtain ⟨a, es, e, h1, _⟩ := h.dicK; exact ⟨a, e, .inl ⟨es, h1⟩⟩
  | true => obtain ⟨a, es, e, h1, _⟩ := h.dicT; exact ⟨a, e, .inr ⟨es, h1⟩⟩

theorem AtAll.nil : AtAll K H [] [] := by unfold AtAll; rfl
theorem AtAll.cons {d : D} {ds : List D} {x : V} {xs : List V} (h : At K H d x) (t : AtAll K H ds xs) : AtAll K H (d :: ds) (x :: xs) := by
  unfold AtAll; exact ⟨x, xs, rfl, h, t⟩
theorem AtAll.inv {d : D} {ds : List D} {xs : List V} (h : AtAll K H (d :: ds) xs) : ∃ x r, xs = x :: r ∧ At K H d x ∧ AtAll K H ds r := by
  unfold AtAll at h; exact h
theorem AtAll.inv0 {xs : List V} (h : AtAll K H [] xs) : xs = [] := by unfold AtAll at h; exact h
theorem at_ints : ∀ ns : List Int, AtAll K H (ns.map D.int) (ns.map V.int)
  | [] => .nil
  | n :: ns => .cons rfl (at_ints ns)
theorem AtAll.len : ∀ {ds : List D} {xs : List V}, AtAll K H ds xs → xs.length = ds.length
  | [], _, h => by rw [h.inv0]; rfl
  | d :: ds, _, h => by
    obtain ⟨x, r, rfl, _, t⟩ := h.inv
    simp only [List.length_cons, t.len]
theorem AtAll.get : ∀ {ds : List D} {xs : List V} {i : Nat} {d : D}, AtAll K H ds xs → ds[i]? = some d → ∃ x, xs[i]? = some x ∧ At K H d x
  | [], _, _, _, h, e => by simp at e
  | d :: ds, _, 0, _, h, e => by
    obtain ⟨x, r, rfl, q, t⟩ := h.inv
    simp at e; subst e
    exact ⟨x, rfl, q⟩
  | d :: ds, _, i + 1, _, h, e => by
    obtain ⟨x, r, rfl, q, t⟩ := h.inv
    obtain ⟨y, h1, h2⟩ := t.get (i := i) (by simpa using e)
    exact ⟨y, by simpa using h1, h2⟩
theorem AtAll.get' : ∀ {ds : List D} {xs : List V} {i : Nat} {x : V}, AtAll K H ds xs → xs[i]? = some x → ∃ d, ds[i]? = some d ∧ At K H d x
  | [], _, _, _, h, e => by rw [h.inv0] at e; simp at e
  | d :: ds, _, 0, _, h, e => by
    obtain ⟨x, r, rfl, q, t⟩ := h.inv
    simp at e; subst e
    exact ⟨d, rfl, q⟩
  | d :: ds, _, i + 1, _, h, e => by
    obtain ⟨x, r, rfl, q, t⟩ := h.inv
    obtain ⟨y, h1, h2⟩ := t.get' (i := i) (by simpa using e)
    exact ⟨y, by simpa using h1, h2⟩
theorem AtAll.app : ∀ {ds es : List D} {xs ys : List V}, AtAll K H ds xs → AtAll K H es ys → AtAll K H (ds ++ es) (xs ++ ys)
  | [], _, _, _, h, t => by rw [h.inv0]; exact t
  | d :: ds, es, _, ys, h, t => by
    obtain ⟨x, r, rfl, q, h'⟩ := h.inv
    exact .cons q (h'.app t)
theorem AtAll.drop : ∀ {ds : List D} {xs : List V} (n : Nat), AtAll K H ds xs → AtAll K H (ds.drop n) (xs.drop n)
  | _, _, 0, h => h
  | [], _, n + 1, h => by rw [h.inv0]; exact .nil
  | d :: ds, _, n + 1, h => by
    obtain ⟨x, r, rfl, q, t⟩ := h.inv
    exact t.drop n
theorem AtAll.take : ∀ {ds : List D} {xs : List V} (n : Nat), AtAll K H ds xs → AtAll K H (ds.take n) (xs.take n)
  | _, _, 0, h => .nil
  | [], _, n + 1, h => by rw [h.inv0]; exact .nil
  | d :: ds, _, n + 1, h => by
    obtain ⟨x, r, rfl, q, t⟩ := h.inv
    exact .cons q (t.take n)
theorem AtAll.rev : ∀ {ds : List D} {xs : List V}, AtAll K H ds xs → AtAll K H ds.reverse xs.reverse
  | [], _, h => by rw [h.inv0]; exact .nil
  | d :: ds, _, h => by
    obtain ⟨x, r, rfl, q, t⟩ := h.inv
    rw [List.reverse_cons, List.reverse_cons]
    exact t.rev.app (.cons q .nil)
theorem AtAll.set : ∀ {ds : List D} {xs : List V} {d : D} {x : V} (i : Nat), AtAll K H ds xs → At K H d x → AtAll K H (ds.set i d) (xs.set i x)
  | [], _, _, _, _, h, _ => by rw [h.inv0]; exact .nil
  | d :: ds, _, _, _, 0, h, q => by
    obtain ⟨x, r, rfl, _, t⟩ := h.inv
    exact .cons q t
  | d :: ds, _, _, _, i + 1, h, q => by
    obtain ⟨x, r, rfl, q', t⟩ := h.inv
    exact .cons q' (t.set i q)
theorem AtAll.erase : ∀ {ds : List D} {xs : List V} (i : Nat), AtAll K H ds xs → AtAll K H (ds.eraseIdx i) (xs.eraseIdx i)
  | [], _, _, h => by rw [h.inv0]; exact .nil
  | d :: ds, _, 0, h => by
    obtain ⟨x, r, rfl, _, t⟩ := h.inv
    exact t
  | d :: ds, _, i + 1, h => by
    obtain ⟨x, r, rfl, q', t⟩ := h.inv
    exact .cons q' (t.erase i)
theorem AtAll.ai {ds : List D} {xs : List V} {i : Int} {d : D} (h : AtAll K H ds xs) (e : atI ds i = some d) : ∃ x, atI xs i = some x ∧ At K H d x := by
  unfold atI at e ⊢
  rw [h.len]
  cases q : ixN ds.length i with
  | none => rw [q] at e; cases e
  | some j =>
    rw [q] at e
    exact h.get e
end

/-! ### operations by contents -/
def rC2 (K : PySem.W.Frag) (g : D → D → Option RV) : R2 := fun x y H Q => ∃ d e r, Ct K H x d ∧ Ct K H y e ∧ g d e = some r ∧ Bounded K H ∧ ∀ v H', Evo noA H H' → RvNew K H H' v r → Q v H'
theorem OpR.imp {X : Cx} {f : Value → Value → Sem Value} {r r' : R2} (h : OpR X f r) (i : ∀ x y H Q, r' x y H Q → r x y H Q) : OpR X f r' := fun pins s σ H x y v u Q I rx ry q => h pins s σ H x y v u Q I rx ry (i x y H Q q)
theorem Evo.self {A : Addr → Prop} {H : Hp} : Evo A H H := Evo.refl

theorem new_own_lst {K : PySem.W.Frag} {H : Hp} {p : Addr} {xs : List V} {ds : List D} (hp : H p = none) (h : AtAll K H ds xs) : RvNew K H (upd H p (.lst xs)) (.ref p) (.own (.lst ds)) :=
  ⟨p, rfl, hp, ⟨xs, upd_same, AtAll.ext (Evo.new (A := noA) hp).ext _ _ h⟩⟩
theorem new_tup {K : PySem.W.Frag} {H : Hp} {p : Addr} {xs : List V} {ds : List D} (hp : H p = none) (h : AtAll K H ds xs) (hn : pairsT ds = false) : At K (upd H p (.tup xs)) (.tup ds) (.ref p) := by
  unfold At
  exact ⟨p, xs, rfl, ⟨.inl (.inl upd_same), fun _ => upd_same, fun z => by rw [hn] at z; cases z⟩, AtAll.ext (Evo.new (A := noA) hp).ext _ _ h⟩
theorem new_frz {K : PySem.W.Frag} {H : Hp} {p : Addr} {xs : List V} {ds : List D} {ob : Obj} (ho : ob.dict = none) (hp : H p = none) (h : AtAll K H ds xs) (hn : pairsT ds = true) : At K (upd H p (.frz ob (.tup xs))) (.tup ds) (.ref p) := by
  unfold At
  refine ⟨p, xs, rfl, ⟨.inl (.inr ⟨ob, upd_same⟩), fun z => ?_, fun _ => ⟨ob, ho, .inl upd_same⟩⟩, AtAll.ext (Evo.new (A := noA) hp).ext _ _ h⟩
  unfold keyT at z
  split at z
  · cases hn
  · cases hn
  · cases z
/-- a new tuple is laid: tracked, or known and without a dict of its own -/
def LaysT (Q : VK) (H : Hp) (p : Addr) (xs : List V) : Prop := Q (.ref p) (upd H p (.tup xs)) ∨ ∀ ob : Obj, ob.dict = none → Q (.ref p) (upd H p (.frz ob (.tup xs)))
theorem lays_at {K : PySem.W.Frag} {H : Hp} {p : Addr} {xs : List V} {ds : List D} {Q : VK} (hp : H p = none) (h : AtAll K H ds xs) (q : ∀ o, At K (upd H p o) (.tup ds) (.ref p) → Q (.ref p) (upd H p o)) : LaysT Q H p xs := by
  cases c : pairsT ds with
  | false => exact .inl (q _ (new_tup hp h c))
  | true => exact .inr fun ob ho => q _ (new_frz ho hp h c)
theorem lays_inv {X : Cx} {pins : List (Addr × Obj)} {σ : Sl} {H : Hp} {s : Shared} {xs : List V} {us : List Value} {Q : VK} {tk : Tok} (I : Inv X pins σ H { s with toks := tk }) (r : Vals xs us) (z : xs.length ≤ sizeLine) (q : LaysT Q H s.heap.objs.size xs) :
    EP X pins σ Q (.ref s.heap.objs.size) { s with heap := s.heap.push { cls := .type "tuple", data := .seq us.toArray }, toks := tk } := by
  rcases q with q | q
  · refine ⟨.ref _, _, I.laid (t' := tk) (o := .tup xs) (fun b ob q => Heap.get?_push_of_some _ q) (Nat.le_refl _) ?_, rfl, q⟩
    exact ⟨z, _, r, PyProof.Rows.IsTup.new _ _⟩
  · refine ⟨.ref _, _, I.laid (t' := tk) (o := .frz { cls := .type "tuple", data := .seq us.toArray } (.tup xs)) (fun b ob q => Heap.get?_push_of_some _ q) (Nat.le_refl _) ?_, rfl, q _ rfl⟩
    exact ⟨Heap.get?_push_size _ rfl, z, _, r, PyProof.Rows.IsTup.new _ _⟩
/-- tuple + tuple -/
def rCatF (K : PySem.W.Frag) : R2 := fun x y H Q => ∃ a b xs ys, x = .ref a ∧ y = .ref b ∧ SqT K H a xs ∧ SqT K H b ys ∧ xs.length + ys.length ≤ sizeLine ∧
  (xs = [] → Q (.ref b) H) ∧ (xs ≠ [] → ys = [] → Q (.ref a) H) ∧ (xs ≠ [] → ys ≠ [] → ∀ p, H p = none → LaysT Q H p (xs ++ ys))
theorem op_catF {X : Cx} : OpR X (binaryOp .Add) (rCatF X.K) := by
  intro pins s σ H x y v u Q I rx ry h
  obtain ⟨a, b, xs, ys, rfl, rfl, ha, hb, hz, q0, q1, q2⟩ := h
  by_cases hx : xs = []
  · exact op_catA pins s σ H _ _ v u Q I rx ry ⟨a, b, xs, ys, rfl, rfl, ha, hb, hz, q0, q1, fun z => absurd hx z⟩
  · by_cases hy : ys = []
    · exact op_catA pins s σ H _ _ v u Q I rx ry ⟨a, b, xs, ys, rfl, rfl, ha, hb, hz, q0, q1, fun _ z => absurd hy z⟩
    · cases rx
      cases ry
      obtain ⟨its, r1, p1, _⟩ := I.tuple ha
      obtain ⟨its2, r2, p2, _⟩ := I.tuple hb
      refine HT.cat_tup p1 p2 (fun z => hx (r1.nil_iff.mp z)) (fun z => absurd (r2.nil_iff.mp z) hy) (fun z => ?_) (by rw [← r1.length, ← r2.length]; exact hz)
      exact lays_inv (s := s) (tk := s.toks) I (r1.append r2) (by rw [List.length_append]; exact hz) (q2 hx hy _ (I.hok.fresh (Nat.le_refl _)))

/-- list + list, whatever they are -/
def rCatL : R2 := fun x y H Q => ∃ l b xs zs, x = .ref l ∧ y = .ref b ∧ Rd H l (.lst xs) ∧ Rd H b (.lst zs) ∧ xs.length + zs.length ≤ sizeLine ∧ ∀ p, H p = none → Q (.ref p) (upd H p (.lst (xs ++ zs)))
theorem rd_lst {X : Cx} {pins : List (Addr × Obj)} {σ : Sl} {H : Hp} {s : Shared} {l : Addr} {xs : List V} (I : Inv X pins σ H s) (h : Rd H l (.lst xs)) :
    xs.length ≤ sizeLine ∧ ∃ (its : List Value) (n : Nat), Vals xs its ∧ xs.length = its.length ∧ s.heap.get? l = some { cls := .type "list", data := .seq its.toArray n } := by
  obtain ⟨z, its, n, r, e⟩ := h.ok I.hok
  exact ⟨z, its, n, r, r.length, e⟩
theorem op_catL {X : Cx} : OpR X (binaryOp .Add) rCatL := by
  intro pins s σ H x y v u Q I rx ry h
  obtain ⟨l, b, xs, zs, rfl, rfl, hH, hB, hz, q⟩ := h
  cases rx
  cases ry
  obtain ⟨z, its, n, r, hl, e⟩ := rd_lst I hH
  obtain ⟨z2, its2, n2, r2, hl2, e2⟩ := rd_lst I hB
  refine PySem.P.add_list e e2 ?_ (by rw [List.size_toArray, List.size_toArray]; omega)
  have ea : its.toArray ++ its2.toArray = (its ++ its2).toArray := by simp
  rw [ea]
  exact ⟨.ref _, _, I.lnew (t' := s.toks) (r.append r2) (by rw [List.length_append]; omega), rfl, q _ I.fresh⟩

def addD : D → D → Option RV
  | .int i, .int j => some (.val (.int (i + j)))
  | .str x, .str y => if x.length + y.length ≤ sizeLine then some (.val (.str (x ++ y))) else none
  | .lst a, .lst b => if a.length + b.length ≤ sizeLine then some (.own (.lst (a ++ b))) else none
  | .tup a, .tup b => if a.length + b.length ≤ sizeLine then some (.val (.tup (a ++ b))) else none
  | _, _ => none
theorem op_addD {X : Cx} : OpR X (binaryOp .Add) (rC2 X.K addD) := by
  refine OpR.imp ((op_add.or op_add_str).or (op_catL.or op_catF)) ?_
  rintro x y H Q ⟨d, e, r, hd, he, hg, hb, q⟩
  unfold addD at hg
  split at hg
  · cases hg
    rw [hd.int, he.int]
    exact .inl (.inl ⟨_, _, rfl, rfl, q _ _ .self rfl⟩)
  · split at hg
    · rename_i h
      cases hg
      rw [hd.str, he.str]
      exact .inl (.inr ⟨_, _, rfl, rfl, h, q _ _ .self rfl⟩)
    · cases hg
  · split at hg
    · rename_i h
      cases hg
      obtain ⟨a, xs, rfl, h1, h2⟩ := hd.lst
      obtain ⟨b, ys, rfl, h3, h4⟩ := he.lst
      refine .inr (.inl ⟨a, b, xs, ys, rfl, rfl, h1, h3, by rw [h2.len, h4.len]; exact h, fun p hp => q _ _ (.new hp) (new_own_lst hp (h2.app h4))⟩)
    · cases hg
  · split at hg
    · rename_i h
      cases hg
      obtain ⟨a, xs, rfl, h1, h2⟩ := hd.tup
      obtain ⟨b, ys, rfl, h3, h4⟩ := he.tup
      refine .inr (.inr ⟨a, b, xs, ys, rfl, rfl, h1, h3, by rw [h2.len, h4.len]; exact h, fun z => ?_, fun _ z => ?_, fun _ _ p hp => lays_at hp (h2.app h4) fun o ho => q _ _ (.new hp) ho⟩)
      · refine q _ _ .self ?_
        have e1 := h2.len
        rw [z] at e1
        have e2 := List.eq_nil_of_length_eq_zero e1.symm
        rw [e2]
        exact (he.tupAt)
      · refine q _ _ .self ?_
        have e1 := h4.len
        rw [z] at e1
        have e2 := List.eq_nil_of_length_eq_zero e1.symm
        rw [e2, List.append_nil]
        exact (hd.tupAt)
    · cases hg
  · cases hg

/-- the same where data come out -/
def rV2 (K : PySem.W.Frag) (g : D → D → Option D) : R2 := fun x y H Q => ∃ d e r, Ct K H x d ∧ Ct K H y e ∧ g d e = some r ∧ Bounded K H ∧ ∀ v H', Evo noA H H' → At K H' r v → Q v H'
def intOp (C : Int → Int → Bool) (g : Int → Int → D) : D → D → Option D
  | .int i, .int j => if C i j = true then some (g i j) else none
  | _, _ => none
theorem op_intD {X : Cx} {f : Value → Value → Sem Value} {C : Int → Int → Bool} {C' : Int → Int → Prop} {g : Int → Int → D} {g' : Int → Int → V} (h : OpR X f (rI C' g')) (hc : ∀ i j, C i j = true → C' i j) (hg : ∀ K H i j, At K H (g i j) (g' i j)) :
    OpR X f (rV2 X.K (intOp C g)) := by
  refine OpR.imp h ?_
  rintro x y H Q ⟨d, e, r, hd, he, hq, hb, q⟩
  unfold intOp at hq
  split at hq
  · split at hq
    · rename_i c
      cases hq
      rw [hd.int, he.int]
      exact ⟨_, _, rfl, rfl, hc _ _ c, q _ _ .self (hg _ _ _ _)⟩
    · cases hq
  · cases hq
theorem op_int0 {X : Cx} {f : Value → Value → Sem Value} {g : Int → Int → D} {g' : Int → Int → V} (h : OpR X f (rI0 g')) (hg : ∀ K H i j, At K H (g i j) (g' i j)) :
    OpR X f (rV2 X.K (intOp (fun _ _ => true) g)) := by
  refine OpR.imp h ?_
  rintro x y H Q ⟨d, e, r, hd, he, hq, hb, q⟩
  unfold intOp at hq
  split at hq
  · split at hq
    · cases hq
      rw [hd.int, he.int]
      exact ⟨_, _, rfl, rfl, q _ _ .self (hg _ _ _ _)⟩
    · cases hq
  · cases hq
def subD : D → D → Option D := intOp (fun _ _ => true) fun i j => .int (i - j)
def divOk (_ j : Int) : Bool := decide (0 < j) && decide (j < 10000000000000000000000000000000000000000)
def divD : D → D → Option D := intOp divOk fun i j => .int (i / j)
def modD : D → D → Option D := intOp (fun _ j => decide (0 < j)) fun i j => .int (i % j)
def powOk (i j : Int) : Bool := decide (0 ≤ j) && (decide (j ≤ 1000000) && decide (i.natAbs < 2 ^ 64))
def powD : D → D → Option D := intOp powOk fun i j => .int (i ^ j.toNat)
def mulOk (i j : Int) : Bool := decide (i.natAbs.log2 + j.natAbs.log2 < 1000000) || (decide (i.natAbs < 2 ^ 63) || decide (j.natAbs < 2 ^ 63))
def mulI : D → D → Option D := intOp mulOk fun i j => .int (i * j)
theorem op_subD {X : Cx} : OpR X (binaryOp .Sub) (rV2 X.K subD) := op_int0 op_sub fun _ _ _ _ => rfl
theorem op_divD {X : Cx} : OpR X (binaryOp .FloorDiv) (rV2 X.K divD) := op_intD op_fdivW (fun i j h => by
  unfold divOk at h
  simp only [Bool.and_eq_true, decide_eq_true_eq] at h
  refine ⟨h.1, ?_⟩
  have h1 : j.natAbs ≠ 0 := by omega
  have h2 : j.natAbs < 2 ^ 200 := by
    have : (10000000000000000000000000000000000000000 : Nat) < 2 ^ 200 := by decide
    omega
  have := (Nat.log2_lt h1).mpr h2
  omega) fun _ _ _ _ => rfl
theorem op_modD {X : Cx} : OpR X (binaryOp .Mod) (rV2 X.K modD) := op_intD op_mod (fun i j h => of_decide_eq_true h) fun _ _ _ _ => rfl
theorem op_powD {X : Cx} : OpR X (binaryOp .Pow) (rV2 X.K powD) := op_intD op_pow (fun i j h => by
  unfold powOk at h
  simp only [Bool.and_eq_true, decide_eq_true_eq] at h
  exact h) fun _ _ _ _ => rfl
theorem op_mulAny {X : Cx} : OpR X (binaryOp .Mult) (rI PySem.IntMulOk fun i j => .int (i * j)) := opI fun _ _ _ _ _ _ _ hc q => PyProof.Rows.mul_int q hc
theorem bits_small {i : Int} (h : i.natAbs < 2 ^ 63) : Builtin.Int.intBits i ≤ 64 := by
  unfold Builtin.Int.intBits
  split
  · omega
  · have : i.natAbs.log2 < 63 := PySem.Flt.log2_lt_of (by omega) h
    omega
theorem mulOk_may {i j : Int} (h : mulOk i j = true) : PySem.IntMulOk i j := by
  unfold mulOk at h
  simp only [Bool.or_eq_true, decide_eq_true_eq] at h
  rcases h with h | h | h
  · exact CMulW.ok h
  · exact .of_left (bits_small h)
  · exact .of_right (bits_small h)
theorem op_mulI {X : Cx} : OpR X (binaryOp .Mult) (rV2 X.K mulI) := op_intD (op_mulAny (X := X)) (fun i j h => mulOk_may h) fun _ _ _ _ => rfl
end Dt

end
section
set_option maxRecDepth 100000
set_option autoImplicit false
namespace Dt
open PySem PySem.Spec L2

instance : DecidableEq DK := fun a b => by
  exact (dk a b)
where
  dk : (a b : DK) → Decidable (a = b)
    | .int i, .int j => if h : i = j then Decidable.isTrue (by rw [h]) else Decidable.isFalse (fun e => h (by cases e; rfl))
    | .str i, .str j => if h : i = j then Decidable.isTrue (by rw [h]) else Decidable.isFalse (fun e => h (by cases e; rfl))
    | .tup i, .tup j => match dks i j with
      | .isTrue h => .isTrue (by rw [h])
      | .isFalse h => .isFalse (fun e => h (by cases e; rfl))
    | .int _, .str _ => .isFalse (fun e => nomatch e)
    | .int _, .tup _ => .isFalse (fun e => nomatch e)
    | .str _, .int _ => .isFalse (fun e => nomatch e)
    | .str _, .tup _ => .isFalse (fun e => nomatch e)
    | .tup _, .int _ => .isFalse (fun e => nomatch e)
    | .tup _, .str _ => .isFalse (fun e => nomatch e)
  dks : (a b : List DK) → Decidable (a = b)
    | [], [] => .isTrue rfl
    | [], _ :: _ => .isFalse (fun e => nomatch e)
    | _ :: _, [] => .isFalse (fun e => nomatch e)
    | a :: r, b :: t => match dk a b, dks r t with
      | .isTrue h, .isTrue h' => .isTrue (by rw [h, h'])
      | .isFalse h, _ => .isFalse (fun e => h (by cases e; rfl))
      | _, .isFalse h => .isFalse (fun e => h (by cases e; rfl))

mutual
def eqvD : D → D → Bool
  | .non, .non => true
  | .bl a, .bl b => a == b
  | .bl a, .int j => (if a then 1 else 0) == j
  | .int i, .bl b => i == (if b then 1 else 0)
  | .int i, .int j => i == j
  | .str x, .str y => x == y
  | .lst xs, .lst ys => eqvAll xs ys
  | .tup xs, .tup ys => eqvAll xs ys
  | .dic _ a, .dic _ b => a.length == b.length && eqvKV a b
  | .non, .bl _ | .non, .int _ | .non, .str _ | .non, .lst _ | .non, .tup _ | .non, .dic _ _ => false
  | .bl _, .non | .bl _, .str _ | .bl _, .lst _ | .bl _, .tup _ | .bl _, .dic _ _ => false
  | .int _, .non | .int _, .str _ | .int _, .lst _ | .int _, .tup _ | .int _, .dic _ _ => false
  | .str _, .non | .str _, .bl _ | .str _, .int _ | .str _, .lst _ | .str _, .tup _ | .str _, .dic _ _ => false
  | .lst _, .non | .lst _, .bl _ | .lst _, .int _ | .lst _, .str _ | .lst _, .tup _ | .lst _, .dic _ _ => false
  | .tup _, .non | .tup _, .bl _ | .tup _, .int _ | .tup _, .str _ | .tup _, .lst _ | .tup _, .dic _ _ => false
  | .dic _ _, .non | .dic _ _, .bl _ | .dic _ _, .int _ | .dic _ _, .str _ | .dic _ _, .lst _ | .dic _ _, .tup _ => false
  | .exc _ _ _ _, _ | .non, .exc _ _ _ _ | .bl _, .exc _ _ _ _ | .int _, .exc _ _ _ _ | .str _, .exc _ _ _ _ | .lst _, .exc _ _ _ _ | .tup _, .exc _ _ _ _ | .dic _ _, .exc _ _ _ _ | .scr _, .exc _ _ _ _ | .nst _, .exc _ _ _ _ => false
  | .nst _, .non | .nst _, .bl _ | .nst _, .int _ | .nst _, .str _ | .nst _, .lst _ | .nst _, .tup _ | .nst _, .dic _ _ | .nst _, .scr _ | .nst _, .nst _ | .non, .nst _ | .bl _, .nst _ | .int _, .nst _ | .str _, .nst _ | .lst _, .nst _ | .tup _, .nst _ | .dic _ _, .nst _ | .scr _, .nst _ => false
  | .scr _, .non | .scr _, .bl _ | .scr _, .int _ | .scr _, .str _ | .scr _, .lst _ | .scr _, .tup _ | .scr _, .dic _ _ | .scr _, .scr _ | .non, .scr _ | .bl _, .scr _ | .int _, .scr _ | .str _, .scr _ | .lst _, .scr _ | .tup _, .scr _ | .dic _ _, .scr _ => false
def eqvAll : List D → List D → Bool
  | [], [] => true
  | x :: xs, y :: ys => eqvD x y && eqvAll xs ys
  | [], _ :: _ => false
  | _ :: _, [] => false
def eqvKV : List (DK × D) → List (DK × D) → Bool
  | [], _ => true
  | (k, d) :: r, es => (match es.lookup k with
    | some e => eqvD d e
    | none => false) && eqvKV r es
end
mutual
def noDic : D → Bool
  | .lst xs => noDics xs
  | .tup xs => noDics xs
  | .dic _ _ => false
  | .scr _ => false
  | .nst _ => false
  | .exc _ _ _ _ => false
  | _ => true
def noDics : List D → Bool
  | [] => true
  | x :: xs => noDic x && noDics xs
end
mutual
def deepD : D → Nat
  | .lst xs => deepAll xs + 1
  | .tup xs => deepAll xs + 1
  | .dic _ kvs => deepKV kvs + 1
  | _ => 0
def deepAll : List D → Nat
  | [] => 0
  | x :: xs => max (deepD x) (deepAll xs)
def deepKV : List (DK × D) → Nat
  | [] => 0
  | (_, x) :: xs => max (deepD x) (deepKV xs)
end
mutual
theorem eqvD_refl : ∀ d : D, noDic d = true → eqvD d d = true
  | .non, _ => rfl
  | .bl b, _ => by simp [eqvD]
  | .int i, _ => by simp [eqvD]
  | .str x, _ => by simp [eqvD]
  | .lst xs, h => by rw [eqvD]; exact eqvAll_refl xs (by simpa [noDic] using h)
  | .tup xs, h => by rw [eqvD]; exact eqvAll_refl xs (by simpa [noDic] using h)
  | .dic _ _, h => by simp [noDic] at h
  | .scr _, h => by simp [noDic] at h
  | .nst _, h => by simp [noDic] at h
  | .exc _ _ _ _, h => by simp [noDic] at h
theorem eqvAll_refl : ∀ xs : List D, noDics xs = true → eqvAll xs xs = true
  | [], _ => rfl
  | x :: xs, h => by
    have h' : noDic x = true ∧ noDics xs = true := by simpa [noDics] using h
    rw [eqvAll, eqvD_refl x h'.1, eqvAll_refl xs h'.2]; rfl
end
abbrev pairEq (xs ys : List D) (j : Nat) : Bool := eqvD (xs.getD j .non) (ys.getD j .non)
theorem eqvAll_eq : ∀ xs ys : List D, ((List.range (min xs.length ys.length)).all (pairEq xs ys) && xs.length == ys.length) = eqvAll xs ys
  | [], [] => rfl
  | [], _ :: _ => by simp [eqvAll]
  | _ :: _, [] => by simp [eqvAll]
  | x :: xs, y :: ys => by
    have ih := eqvAll_eq xs ys
    have e1 : min (x :: xs).length (y :: ys).length = min xs.length ys.length + 1 := by simp only [List.length_cons]; omega
    have e2 : ((x :: xs).length == (y :: ys).length) = (xs.length == ys.length) := by simp
    have e3 : (List.range (min xs.length ys.length + 1)).all (pairEq (x :: xs) (y :: ys)) = (eqvD x y && (List.range (min xs.length ys.length)).all (pairEq xs ys)) := by
      rw [List.range_succ_eq_map, List.all_cons, List.all_map]
      first | rfl | simp [pairEq, Function.comp_def]
    rw [e1, e2, e3, eqvAll, ← ih, Bool.and_assoc]
theorem eqvAll_same_length {xs ys : List D} (h : xs.length = ys.length) : (List.range xs.length).all (pairEq xs ys) = eqvAll xs ys := by
  have := eqvAll_eq xs ys
  rw [← h, Nat.min_self] at this
  simpa using this
theorem eqvAll_other_length {xs ys : List D} (h : xs.length ≠ ys.length) : eqvAll xs ys = false := by
  rw [← eqvAll_eq xs ys]
  simp [h]
section
variable {X : Cx} {pins : List (Addr × Obj)} {σ : Sl} {H : Hp} {s : Shared}
theorem ct_list (I : Inv X pins σ H s) {v : V} {u : Value} {ds : List D} (h : Ct X.K H v (.lst ds)) (r : RelV v u) : ∃ a xs its, v = .ref a ∧ u = .ref a ∧ Rd H a (.lst xs) ∧ AtAll X.K H ds xs ∧ Vals xs its ∧ s.heap.IsList a its.toArray ∧ its.length = ds.length := by
  obtain ⟨a, xs, rfl, h1, h2⟩ := h.lst
  cases r
  obtain ⟨its, rv, p, hz⟩ := I.list (X := X) (show SqL X.K H a xs from .inl h1)
  exact ⟨a, xs, its, rfl, rfl, h1, h2, rv, p.isList, by rw [← rv.length, h2.len]⟩
theorem ct_tuple (I : Inv X pins σ H s) {v : V} {u : Value} {ds : List D} (h : Ct X.K H v (.tup ds)) (r : RelV v u) : ∃ a xs its, v = .ref a ∧ u = .ref a ∧ SqT X.K H a xs ∧ AtAll X.K H ds xs ∧ Vals xs its ∧ s.heap.IsTuple a its.toArray ∧ its.length = ds.length := by
  obtain ⟨a, xs, rfl, h1, h2⟩ := h.tup
  cases r
  obtain ⟨its, rv, p, hz⟩ := I.tuple h1
  exact ⟨a, xs, its, rfl, rfl, h1, h2, rv, p, by rw [← rv.length, h2.len]⟩
def kindD : D → String
  | .lst _ => "list"
  | .tup _ => "tuple"
  | .dic _ _ => "dict"
  | .scr _ => "list"
  | .nst _ => "dict"
  | _ => ""
def isXc : D → Bool
  | .exc _ _ _ _ => true
  | _ => false
theorem notE {d : D} (h : noDic d = true) : isXc d = false := by cases d <;> first | rfl | (simp [noDic] at h)
theorem ct_cls (I : Inv X pins σ H s) {a : Addr} {d : D} (h : Ct X.K H (.ref a) d) (hE : isXc d = false) : kindD d ≠ "" ∧ ∃ o, s.heap.get? a = some o ∧ o.cls = .type (kindD d) := by
  cases d with
  | non => exact nomatch h.non
  | bl _ => exact nomatch h.bl
  | int _ => exact nomatch h.int
  | str _ => exact nomatch h.str
  | tup ds =>
    obtain ⟨b, xs, z, h1, h2⟩ := h.tup
    cases z
    obtain ⟨_, _, ⟨o, e1, c1, _⟩, _⟩ := I.tuple h1
    exact ⟨by simp [kindD], o, e1, c1⟩
  | lst ds =>
    obtain ⟨b, xs, z, h1, h2⟩ := h.lst
    cases z
    obtain ⟨_, _, ⟨o, _, e1, c1, _⟩, _⟩ := I.list (X := X) (show SqL X.K H a xs from .inl h1)
    exact ⟨by simp [kindD], o, e1, c1⟩
  | scr ns =>
    obtain ⟨b, z, h1⟩ := h.scr
    cases z
    obtain ⟨_, _, ⟨o, _, e1, c1, _⟩, _⟩ := I.list (X := X) h1.sql
    exact ⟨by simp [kindD], o, e1, c1⟩
  | dic _ ds =>
    obtain ⟨b, z, h3⟩ := h.dic
    cases z
    rcases h3 with ⟨es, h3⟩ | ⟨es, h3⟩
    · obtain ⟨_, _, _, _, o, _, _, e2, c2, _⟩ := h3.ok I.hok
      exact ⟨by simp [kindD], o, e2, c2.1⟩
    · obtain ⟨_, _, _, _, o, _, _, e2, c2, _⟩ := h3.ok I.hok
      exact ⟨by simp [kindD], o, e2, c2.1⟩
  | nst ds =>
    obtain ⟨b, es, z, h3, _⟩ := h.nst
    cases z
    obtain ⟨⟨_, _, _, o, _, _, e2, c2, _⟩, _⟩ := (show ObjOk X.prog X.w H s.heap a (NRaw a es) from h3.ok I.hok)
    exact ⟨by simp [kindD], o, e2, c2.1⟩
  | exc _ _ _ _ => cases hE
theorem ct_kind (I : Inv X pins σ H s) {a : Addr} {d e : D} (h : Ct X.K H (.ref a) d) (q : Ct X.K H (.ref a) e) (hd : isXc d = false) (he : isXc e = false) : kindD d = kindD e := by
  obtain ⟨_, o, e1, c1⟩ := ct_cls I h hd
  obtain ⟨_, o', e2, c2⟩ := ct_cls I q he
  rw [e1] at e2
  cases e2
  rw [c1] at c2
  injection c2
theorem ct_ref {d : D} {v : V} (h : Ct X.K H v d) : (∃ a, v = .ref a) ∨ (d = .non ∧ v = .non) ∨ (∃ b, d = .bl b ∧ v = .bl b) ∨ (∃ i, d = .int i ∧ v = .int i) ∨ ∃ x, d = .str x ∧ v = .str x := by
  cases d with
  | non => exact .inr (.inl ⟨rfl, h.non⟩)
  | bl b => exact .inr (.inr (.inl ⟨b, rfl, h.bl⟩))
  | int i => exact .inr (.inr (.inr (.inl ⟨i, rfl, h.int⟩)))
  | str x => exact .inr (.inr (.inr (.inr ⟨x, rfl, h.str⟩)))
  | tup ds => obtain ⟨a, _, z, _⟩ := h.tup; exact .inl ⟨a, z⟩
  | lst ds => obtain ⟨a, _, z, _⟩ := h.lst; exact .inl ⟨a, z⟩
  | dic _ ds => obtain ⟨a, z, _⟩ := h.dic; exact .inl ⟨a, z⟩
  | scr ns => obtain ⟨a, z, _⟩ := h.scr; exact .inl ⟨a, z⟩
  | nst ds => obtain ⟨a, _, z, _⟩ := h.nst; exact .inl ⟨a, z⟩
  | exc c f C d => obtain ⟨a, _, _, _, z, _⟩ := h.exc1; exact .inl ⟨a, z⟩
mutual
theorem Ct.uniq (I : Inv X pins σ H s) : ∀ (d e : D) (v : V), noDic d = true → noDic e = true → Ct X.K H v d → Ct X.K H v e → d = e := fun d e v hn hm h q => by
  rcases ct_ref (X := X) h with ⟨a, rfl⟩ | ⟨rfl, rfl⟩ | ⟨b, rfl, rfl⟩ | ⟨b, rfl, rfl⟩ | ⟨b, rfl, rfl⟩
  · have k := ct_kind I h q (notE hn) (notE hm)
    have k0 := (ct_cls I h (notE hn)).1
    cases d with
    | tup ds =>
      cases e with
      | tup es =>
        obtain ⟨b, xs, z, h1, h2⟩ := h.tup
        cases z
        obtain ⟨b, ys, z, h3, h4⟩ := q.tup
        cases z
        have := I.tuple_inj h1 h3
        subst this
        rw [AtAll.uniq I ds es xs (by simpa [noDic] using hn) (by simpa [noDic] using hm) h2 h4]
      | _ => exact absurd k (by simp [kindD])
    | lst ds =>
      cases e with
      | scr _ => simp [noDic] at hm
      | lst es =>
        obtain ⟨b, xs, z, h1, h2⟩ := h.lst
        cases z
        obtain ⟨b, ys, z, h3, h4⟩ := q.lst
        cases z
        have := I.list_inj (X := X) (show SqL X.K H a xs from .inl h1) (show SqL X.K H a ys from .inl h3)
        subst this
        rw [AtAll.uniq I ds es xs (by simpa [noDic] using hn) (by simpa [noDic] using hm) h2 h4]
      | _ => exact absurd k (by simp [kindD])
    | dic _ _ => simp [noDic] at hn
    | scr _ => simp [noDic] at hn
    | nst _ => simp [noDic] at hn
    | exc _ _ _ _ => simp [noDic] at hn
    | _ => exact absurd rfl k0
  all_goals
    rcases ct_ref (X := X) q with ⟨a, z⟩ | ⟨rfl, z⟩ | ⟨b, rfl, z⟩ | ⟨b, rfl, z⟩ | ⟨b, rfl, z⟩ <;> cases z <;> rfl
theorem AtAll.uniq (I : Inv X pins σ H s) : ∀ (ds es : List D) (xs : List V), noDics ds = true → noDics es = true → AtAll X.K H ds xs → AtAll X.K H es xs → ds = es
  | [], es, xs, _, _, h, q => by
    rw [h.inv0] at q
    cases es with
    | nil => rfl
    | cons e es => obtain ⟨_, _, z, _⟩ := q.inv; cases z
  | d :: ds, es, xs, hn, hm, h, q => by
    obtain ⟨x, r, rfl, h1, h2⟩ := h.inv
    have hn' : noDic d = true ∧ noDics ds = true := by simpa [noDics] using hn
    cases es with
    | nil => exact nomatch q.inv0
    | cons e es =>
      obtain ⟨y, r', z, q1, q2⟩ := q.inv
      cases z
      have hm' : noDic e = true ∧ noDics es = true := by simpa [noDics] using hm
      rw [Ct.uniq I d e x hn'.1 hm'.1 h1.ct q1.ct, AtAll.uniq I ds es r hn'.2 hm'.2 h2 q2]
end
theorem room_of {A : Around} {d e : D} (h : A.units + min (deepD d) (deepD e) < cLine) : A.units < cLine := Nat.lt_of_le_of_lt (Nat.le_add_right _ _) h
mutual
theorem eqAtD (I : Inv X pins σ H s) : ∀ (d e : D) (A : Around) (v w : V) (u t : Value), Ct X.K H v d → Ct X.K H w e → RelV v u → RelV w t → noDic d = true → noDic e = true → A.units + min (deepD d) (deepD e) < cLine → SeqAt.EqAt A s u t (eqvD d e) := fun d e A v w u t h q ru rt hn hm hu => by
  have hu0 := room_of hu
  cases d with
  | dic _ _ => simp [noDic] at hn
  | scr _ => simp [noDic] at hn
  | nst _ => simp [noDic] at hn
  | exc _ _ _ _ => simp [noDic] at hn
  | non =>
    cases h.non
    cases ru
    cases e with
    | dic _ _ => simp [noDic] at hm
    | scr _ => simp [noDic] at hm
    | nst _ => simp [noDic] at hm
    | exc _ _ _ _ => simp [noDic] at hm
    | non => cases q.non; cases rt; exact .same _
    | bl _ => cases q.bl; cases rt; exact .none_bool _
    | int _ => cases q.int; obtain ⟨_, rfl⟩ := rt; exact .none_int _ _
    | str _ => cases q.str; obtain ⟨_, rfl⟩ := rt; exact .none_str _ _
    | tup es => obtain ⟨_, _, _, rfl, rfl, _, _, _, l, _⟩ := ct_tuple I q rt; exact .none_tuple l hu0
    | lst es => obtain ⟨_, _, _, rfl, rfl, _, _, _, l, _⟩ := ct_list I q rt; exact .none_list l hu0
  | bl _ =>
    cases h.bl
    cases ru
    cases e with
    | dic _ _ => simp [noDic] at hm
    | scr _ => simp [noDic] at hm
    | nst _ => simp [noDic] at hm
    | exc _ _ _ _ => simp [noDic] at hm
    | non => cases q.non; cases rt; exact .bool_none _
    | bl _ => cases q.bl; cases rt; exact .bool_bool _ _
    | int _ => cases q.int; obtain ⟨_, rfl⟩ := rt; exact .bool_int _ _ _
    | str _ => cases q.str; obtain ⟨_, rfl⟩ := rt; exact .bool_str _ _ _
    | tup es => obtain ⟨_, _, _, rfl, rfl, _, _, _, l, _⟩ := ct_tuple I q rt; exact .bool_tuple _ l hu0
    | lst es => obtain ⟨_, _, _, rfl, rfl, _, _, _, l, _⟩ := ct_list I q rt; exact .bool_list _ l hu0
  | int _ =>
    cases h.int
    obtain ⟨_, rfl⟩ := ru
    cases e with
    | dic _ _ => simp [noDic] at hm
    | scr _ => simp [noDic] at hm
    | nst _ => simp [noDic] at hm
    | exc _ _ _ _ => simp [noDic] at hm
    | non => cases q.non; cases rt; exact .int_none _ _
    | bl _ => cases q.bl; cases rt; exact .int_bool _ _ _
    | int _ => cases q.int; obtain ⟨_, rfl⟩ := rt; exact .int_int _ _ _ _
    | str _ => cases q.str; obtain ⟨_, rfl⟩ := rt; exact .int_str _ _ _ _
    | tup es => obtain ⟨_, _, _, rfl, rfl, _, _, _, l, _⟩ := ct_tuple I q rt; exact .int_tuple _ _ l hu0
    | lst es => obtain ⟨_, _, _, rfl, rfl, _, _, _, l, _⟩ := ct_list I q rt; exact .int_list _ _ l hu0
  | str _ =>
    cases h.str
    obtain ⟨_, rfl⟩ := ru
    cases e with
    | dic _ _ => simp [noDic] at hm
    | scr _ => simp [noDic] at hm
    | nst _ => simp [noDic] at hm
    | exc _ _ _ _ => simp [noDic] at hm
    | non => cases q.non; cases rt; exact .str_none _ _
    | bl _ => cases q.bl; cases rt; exact .str_bool _ _ _
    | int _ => cases q.int; obtain ⟨_, rfl⟩ := rt; exact .str_int _ _ _ _
    | str _ => cases q.str; obtain ⟨_, rfl⟩ := rt; exact .str_str _ _ _ _
    | tup es => obtain ⟨_, _, _, rfl, rfl, _, _, _, l, _⟩ := ct_tuple I q rt; exact .str_tuple _ _ l hu0
    | lst es => obtain ⟨_, _, _, rfl, rfl, _, _, _, l, _⟩ := ct_list I q rt; exact .str_list _ _ l hu0
  | tup ds =>
    obtain ⟨a, xs, its, rfl, rfl, _, hx, rv, hl, n1⟩ := ct_tuple I h ru
    cases e with
    | dic _ _ => simp [noDic] at hm
    | scr _ => simp [noDic] at hm
    | nst _ => simp [noDic] at hm
    | exc _ _ _ _ => simp [noDic] at hm
    | non => cases q.non; cases rt; exact .tuple_none hl hu0
    | bl _ => cases q.bl; cases rt; exact .tuple_bool _ hl hu0
    | int _ => cases q.int; obtain ⟨_, rfl⟩ := rt; exact .tuple_int _ _ hl hu0
    | str _ => cases q.str; obtain ⟨_, rfl⟩ := rt; exact .tuple_str _ _ hl hu0
    | lst es => obtain ⟨_, _, _, rfl, rfl, _, _, _, l, _⟩ := ct_list I q rt; exact .tuple_list hl l hu0
    | tup es =>
      obtain ⟨b, ys, jts, rfl, rfl, _, hy, rw', hl', n2⟩ := ct_tuple I q rt
      by_cases hab : a = b
      · subst hab
        have e := Ct.uniq I _ _ _ hn hm h q
        injection e with e
        subst e
        rw [eqvD_refl _ hn]
        exact .same _
      · show SeqAt.EqAt A s _ _ (eqvD (.tup ds) (.tup es))
        rw [show eqvD (.tup ds) (.tup es) = eqvAll ds es from by rw [eqvD], ← eqvAll_eq ds es, ← n1, ← n2]
        have he : ∀ j (j1 : j < its.toArray.size) (j2 : j < jts.toArray.size), SeqAt.EqAt A.in1 s its.toArray[j] jts.toArray[j] (pairEq ds es j) := fun j j1 j2 => by
         have := eqAtAll I ds es A.in1 xs ys its jts hx hy rv rw' (by simpa [noDic] using hn) (by simpa [noDic] using hm) (by
          rw [deepD, deepD] at hu
          show A.units + 1 + _ < _
          omega) j (by simpa using j1) (by simpa using j2)
         simpa using this
        have k := SeqAt.RcAt.tuples hl hl' hu0 he
        exact .of_refs hab (by simpa using k)
  | lst ds =>
    obtain ⟨a, xs, its, rfl, rfl, _, hx, rv, hl, n1⟩ := ct_list I h ru
    cases e with
    | dic _ _ => simp [noDic] at hm
    | scr _ => simp [noDic] at hm
    | nst _ => simp [noDic] at hm
    | exc _ _ _ _ => simp [noDic] at hm
    | non => cases q.non; cases rt; exact .list_none hl hu0
    | bl _ => cases q.bl; cases rt; exact .list_bool _ hl hu0
    | int _ => cases q.int; obtain ⟨_, rfl⟩ := rt; exact .list_int _ _ hl hu0
    | str _ => cases q.str; obtain ⟨_, rfl⟩ := rt; exact .list_str _ _ hl hu0
    | tup es => obtain ⟨_, _, _, rfl, rfl, _, _, _, l, _⟩ := ct_tuple I q rt; exact .list_tuple hl l hu0
    | lst es =>
      obtain ⟨b, ys, jts, rfl, rfl, _, hy, rw', hl', n2⟩ := ct_list I q rt
      by_cases hab : a = b
      · subst hab
        have e := Ct.uniq I _ _ _ hn hm h q
        injection e with e
        subst e
        rw [eqvD_refl _ hn]
        exact .same _
      · show SeqAt.EqAt A s _ _ (eqvD (.lst ds) (.lst es))
        rw [show eqvD (.lst ds) (.lst es) = eqvAll ds es from by rw [eqvD]]
        by_cases hsz : its.length = jts.length
        · rw [← eqvAll_same_length (by omega : ds.length = es.length), ← n1]
          have he : ∀ j (j1 : j < its.toArray.size) (j2 : j < jts.toArray.size), SeqAt.EqAt A.in1 s its.toArray[j] jts.toArray[j] (pairEq ds es j) := fun j j1 j2 => by
           have := eqAtAll I ds es A.in1 xs ys its jts hx hy rv rw' (by simpa [noDic] using hn) (by simpa [noDic] using hm) (by
            rw [deepD, deepD] at hu
            show A.units + 1 + _ < _
            omega) j (by simpa using j1) (by simpa using j2)
           simpa using this
          have k := SeqAt.RcAt.lists hl hl' (by simpa using hsz) hu0 he
          exact .of_refs hab (by simpa using k)
        · rw [eqvAll_other_length (by omega : ds.length ≠ es.length)]
          exact .of_refs hab (SeqAt.RcAt.lists_lengths hl hl' (by simpa using hsz) hu0)
theorem eqAtAll (I : Inv X pins σ H s) : ∀ (ds es : List D) (A : Around) (xs ys : List V) (us ts : List Value), AtAll X.K H ds xs → AtAll X.K H es ys → Vals xs us → Vals ys ts → noDics ds = true → noDics es = true →
    A.units + min (deepAll ds) (deepAll es) < cLine → ∀ j (h1 : j < us.length) (h2 : j < ts.length), SeqAt.EqAt A s us[j] ts[j] (pairEq ds es j)
  | [], _, _, _, _, _, _, h, _, r, _, _, _, _, j, h1, _ => by rw [h.inv0] at r; cases r; exact absurd h1 (Nat.not_lt_zero _)
  | _ :: _, [], _, _, _, _, _, _, h, _, r, _, _, _, j, _, h2 => by rw [h.inv0] at r; cases r; exact absurd h2 (Nat.not_lt_zero _)
  | d :: ds, e :: es, A, _, _, _, _, h, q, r, r', hn, hm, hu, j, h1, h2 => by
    have hn' : noDic d = true ∧ noDics ds = true := by simpa [noDics] using hn
    have hm' : noDic e = true ∧ noDics es = true := by simpa [noDics] using hm
    obtain ⟨x, xs, rfl, a1, a2⟩ := h.inv
    obtain ⟨y, ys, rfl, b1, b2⟩ := q.inv
    rw [deepAll, deepAll] at hu
    cases r with
    | cons r1 r2 =>
      cases r' with
      | cons s1 s2 =>
        cases j with
        | zero => exact eqAtD I d e A _ _ _ _ a1.ct b1.ct r1 s1 hn'.1 hm'.1 (by omega)
        | succ j => exact eqAtAll I ds es A xs ys _ _ a2 b2 r2 s2 hn'.2 hm'.2 (by omega) j (Nat.lt_of_succ_lt_succ h1) (Nat.lt_of_succ_lt_succ h2)
end
end
end Dt

end
section
set_option maxRecDepth 100000
set_option autoImplicit false
namespace Dt
open PySem PySem.Spec L2
section
variable {X : Cx} {pins : List (Addr × Obj)} {σ : Sl} {H : Hp} {s : Shared}
theorem rcAtD (I : Inv X pins σ H s) : ∀ (d e : D) (A : Around) (v w : V) (u t : Value), Ct X.K H v d → Ct X.K H w e → RelV v u → RelV w t → noDic d = true → noDic e = true → A.units + min (deepD d) (deepD e) < cLine → SeqAt.RcAt A s u t (eqvD d e) := fun d e A v w u t h q ru rt hn hm hu => by
  have hu0 := room_of hu
  cases d with
  | dic _ _ => simp [noDic] at hn
  | scr _ => simp [noDic] at hn
  | nst _ => simp [noDic] at hn
  | exc _ _ _ _ => simp [noDic] at hn
  | non =>
    cases h.non
    cases ru
    cases e with
    | dic _ _ => simp [noDic] at hm
    | scr _ => simp [noDic] at hm
    | nst _ => simp [noDic] at hm
    | exc _ _ _ _ => simp [noDic] at hm
    | non => cases q.non; cases rt; exact .none_none
    | bl _ => cases q.bl; cases rt; exact .none_bool _
    | int _ => cases q.int; obtain ⟨_, rfl⟩ := rt; exact .none_int _ _
    | str _ => cases q.str; obtain ⟨_, rfl⟩ := rt; exact .none_str _ _
    | tup es => obtain ⟨_, _, _, rfl, rfl, _, _, _, l, _⟩ := ct_tuple I q rt; exact .none_tuple l hu0
    | lst es => obtain ⟨_, _, _, rfl, rfl, _, _, _, l, _⟩ := ct_list I q rt; exact .none_list l hu0
  | bl _ =>
    cases h.bl
    cases ru
    cases e with
    | dic _ _ => simp [noDic] at hm
    | scr _ => simp [noDic] at hm
    | nst _ => simp [noDic] at hm
    | exc _ _ _ _ => simp [noDic] at hm
    | non => cases q.non; cases rt; exact .bool_none _
    | bl _ => cases q.bl; cases rt; exact .bool_bool _ _
    | int _ => cases q.int; obtain ⟨_, rfl⟩ := rt; exact .bool_int _ _ _
    | str _ => cases q.str; obtain ⟨_, rfl⟩ := rt; exact .bool_str _ _ _
    | tup es => obtain ⟨_, _, _, rfl, rfl, _, _, _, l, _⟩ := ct_tuple I q rt; exact .bool_tuple _ l hu0
    | lst es => obtain ⟨_, _, _, rfl, rfl, _, _, _, l, _⟩ := ct_list I q rt; exact .bool_list _ l hu0
  | int _ =>
    cases h.int
    obtain ⟨_, rfl⟩ := ru
    cases e with
    | dic _ _ => simp [noDic] at hm
    | scr _ => simp [noDic] at hm
    | nst _ => simp [noDic] at hm
    | exc _ _ _ _ => simp [noDic] at hm
    | non => cases q.non; cases rt; exact .int_none _ _
    | bl _ => cases q.bl; cases rt; exact .int_bool _ _ _
    | int _ => cases q.int; obtain ⟨_, rfl⟩ := rt; exact .int_int _ _ _ _
    | str _ => cases q.str; obtain ⟨_, rfl⟩ := rt; exact .int_str _ _ _ _
    | tup es => obtain ⟨_, _, _, rfl, rfl, _, _, _, l, _⟩ := ct_tuple I q rt; exact .int_tuple _ _ l hu0
    | lst es => obtain ⟨_, _, _, rfl, rfl, _, _, _, l, _⟩ := ct_list I q rt; exact .int_list _ _ l hu0
  | str _ =>
    cases h.str
    obtain ⟨_, rfl⟩ := ru
    cases e with
    | dic _ _ => simp [noDic] at hm
    | scr _ => simp [noDic] at hm
    | nst _ => simp [noDic] at hm
    | exc _ _ _ _ => simp [noDic] at hm
    | non => cases q.non; cases rt; exact .str_none _ _
    | bl _ => cases q.bl; cases rt; exact .str_bool _ _ _
    | int _ => cases q.int; obtain ⟨_, rfl⟩ := rt; exact .str_int _ _ _ _
    | str _ => cases q.str; obtain ⟨_, rfl⟩ := rt; exact .str_str _ _ _ _
    | tup es => obtain ⟨_, _, _, rfl, rfl, _, _, _, l, _⟩ := ct_tuple I q rt; exact .str_tuple _ _ l hu0
    | lst es => obtain ⟨_, _, _, rfl, rfl, _, _, _, l, _⟩ := ct_list I q rt; exact .str_list _ _ l hu0
  | tup ds =>
    obtain ⟨a, xs, its, rfl, rfl, _, hx, rv, hl, n1⟩ := ct_tuple I h ru
    cases e with
    | dic _ _ => simp [noDic] at hm
    | scr _ => simp [noDic] at hm
    | nst _ => simp [noDic] at hm
    | exc _ _ _ _ => simp [noDic] at hm
    | non => cases q.non; cases rt; exact .tuple_none hl hu0
    | bl _ => cases q.bl; cases rt; exact .tuple_bool _ hl hu0
    | int _ => cases q.int; obtain ⟨_, rfl⟩ := rt; exact .tuple_int _ _ hl hu0
    | str _ => cases q.str; obtain ⟨_, rfl⟩ := rt; exact .tuple_str _ _ hl hu0
    | lst es => obtain ⟨_, _, _, rfl, rfl, _, _, _, l, _⟩ := ct_list I q rt; exact .tuple_list hl l hu0
    | tup es =>
      obtain ⟨b, ys, jts, rfl, rfl, _, hy, rw', hl', n2⟩ := ct_tuple I q rt
      rw [show eqvD (.tup ds) (.tup es) = eqvAll ds es from by rw [eqvD], ← eqvAll_eq ds es, ← n1, ← n2]
      have he : ∀ j (j1 : j < its.toArray.size) (j2 : j < jts.toArray.size), SeqAt.EqAt A.in1 s its.toArray[j] jts.toArray[j] (pairEq ds es j) := fun j j1 j2 => by
        have := eqAtAll I ds es A.in1 xs ys its jts hx hy rv rw' (by simpa [noDic] using hn) (by simpa [noDic] using hm) (by
          rw [deepD, deepD] at hu
          show A.units + 1 + _ < _
          omega) j (by simpa using j1) (by simpa using j2)
        simpa using this
      have k := SeqAt.RcAt.tuples hl hl' hu0 he
      simpa using k
  | lst ds =>
    obtain ⟨a, xs, its, rfl, rfl, _, hx, rv, hl, n1⟩ := ct_list I h ru
    cases e with
    | dic _ _ => simp [noDic] at hm
    | scr _ => simp [noDic] at hm
    | nst _ => simp [noDic] at hm
    | exc _ _ _ _ => simp [noDic] at hm
    | non => cases q.non; cases rt; exact .list_none hl hu0
    | bl _ => cases q.bl; cases rt; exact .list_bool _ hl hu0
    | int _ => cases q.int; obtain ⟨_, rfl⟩ := rt; exact .list_int _ _ hl hu0
    | str _ => cases q.str; obtain ⟨_, rfl⟩ := rt; exact .list_str _ _ hl hu0
    | tup es => obtain ⟨_, _, _, rfl, rfl, _, _, _, l, _⟩ := ct_tuple I q rt; exact .list_tuple hl l hu0
    | lst es =>
      obtain ⟨b, ys, jts, rfl, rfl, _, hy, rw', hl', n2⟩ := ct_list I q rt
      rw [show eqvD (.lst ds) (.lst es) = eqvAll ds es from by rw [eqvD]]
      by_cases hsz : its.length = jts.length
      · rw [← eqvAll_same_length (by omega : ds.length = es.length), ← n1]
        have he : ∀ j (j1 : j < its.toArray.size) (j2 : j < jts.toArray.size), SeqAt.EqAt A.in1 s its.toArray[j] jts.toArray[j] (pairEq ds es j) := fun j j1 j2 => by
          have := eqAtAll I ds es A.in1 xs ys its jts hx hy rv rw' (by simpa [noDic] using hn) (by simpa [noDic] using hm) (by
            rw [deepD, deepD] at hu
            show A.units + 1 + _ < _
            omega) j (by simpa using j1) (by simpa using j2)
          simpa using this
        have k := SeqAt.RcAt.lists hl hl' (by simpa using hsz) hu0 he
        simpa using k
      · rw [eqvAll_other_length (by omega : ds.length ≠ es.length)]
        exact SeqAt.RcAt.lists_lengths hl hl' (by simpa using hsz) hu0
theorem rcNeAtD (I : Inv X pins σ H s) : ∀ (d e : D) (A : Around) (v w : V) (u t : Value), Ct X.K H v d → Ct X.K H w e → RelV v u → RelV w t → noDic d = true → noDic e = true → A.units + min (deepD d) (deepD e) < cLine → SeqAt.RcNeAt A s u t (!eqvD d e) := fun d e A v w u t h q ru rt hn hm hu => by
  have hu0 := room_of hu
  cases d with
  | dic _ _ => simp [noDic] at hn
  | scr _ => simp [noDic] at hn
  | nst _ => simp [noDic] at hn
  | exc _ _ _ _ => simp [noDic] at hn
  | non =>
    cases h.non
    cases ru
    cases e with
    | dic _ _ => simp [noDic] at hm
    | scr _ => simp [noDic] at hm
    | nst _ => simp [noDic] at hm
    | exc _ _ _ _ => simp [noDic] at hm
    | non => cases q.non; cases rt; exact .none_none
    | bl _ => cases q.bl; cases rt; exact .none_bool _
    | int _ => cases q.int; obtain ⟨_, rfl⟩ := rt; exact .none_int _ _
    | str _ => cases q.str; obtain ⟨_, rfl⟩ := rt; exact .none_str _ _
    | tup es => obtain ⟨_, _, _, rfl, rfl, _, _, _, l, _⟩ := ct_tuple I q rt; exact .none_tuple l hu0
    | lst es => obtain ⟨_, _, _, rfl, rfl, _, _, _, l, _⟩ := ct_list I q rt; exact .none_list l hu0
  | bl _ =>
    cases h.bl
    cases ru
    cases e with
    | dic _ _ => simp [noDic] at hm
    | scr _ => simp [noDic] at hm
    | nst _ => simp [noDic] at hm
    | exc _ _ _ _ => simp [noDic] at hm
    | non => cases q.non; cases rt; exact .bool_none _
    | bl _ => cases q.bl; cases rt; exact .bool_bool _ _
    | int _ => cases q.int; obtain ⟨_, rfl⟩ := rt; exact .bool_int _ _ _
    | str _ => cases q.str; obtain ⟨_, rfl⟩ := rt; exact .bool_str _ _ _
    | tup es => obtain ⟨_, _, _, rfl, rfl, _, _, _, l, _⟩ := ct_tuple I q rt; exact .bool_tuple _ l hu0
    | lst es => obtain ⟨_, _, _, rfl, rfl, _, _, _, l, _⟩ := ct_list I q rt; exact .bool_list _ l hu0
  | int _ =>
    cases h.int
    obtain ⟨_, rfl⟩ := ru
    cases e with
    | dic _ _ => simp [noDic] at hm
    | scr _ => simp [noDic] at hm
    | nst _ => simp [noDic] at hm
    | exc _ _ _ _ => simp [noDic] at hm
    | non => cases q.non; cases rt; exact .int_none _ _
    | bl _ => cases q.bl; cases rt; exact .int_bool _ _ _
    | int _ => cases q.int; obtain ⟨_, rfl⟩ := rt; exact .int_int _ _ _ _
    | str _ => cases q.str; obtain ⟨_, rfl⟩ := rt; exact .int_str _ _ _ _
    | tup es => obtain ⟨_, _, _, rfl, rfl, _, _, _, l, _⟩ := ct_tuple I q rt; exact .int_tuple _ _ l hu0
    | lst es => obtain ⟨_, _, _, rfl, rfl, _, _, _, l, _⟩ := ct_list I q rt; exact .int_list _ _ l hu0
  | str _ =>
    cases h.str
    obtain ⟨_, rfl⟩ := ru
    cases e with
    | dic _ _ => simp [noDic] at hm
    | scr _ => simp [noDic] at hm
    | nst _ => simp [noDic] at hm
    | exc _ _ _ _ => simp [noDic] at hm
    | non => cases q.non; cases rt; exact .str_none _ _
    | bl _ => cases q.bl; cases rt; exact .str_bool _ _ _
    | int _ => cases q.int; obtain ⟨_, rfl⟩ := rt; exact .str_int _ _ _ _
    | str _ => cases q.str; obtain ⟨_, rfl⟩ := rt; exact .str_str _ _ _ _
    | tup es => obtain ⟨_, _, _, rfl, rfl, _, _, _, l, _⟩ := ct_tuple I q rt; exact .str_tuple _ _ l hu0
    | lst es => obtain ⟨_, _, _, rfl, rfl, _, _, _, l, _⟩ := ct_list I q rt; exact .str_list _ _ l hu0
  | tup ds =>
    obtain ⟨a, xs, its, rfl, rfl, _, hx, rv, hl, n1⟩ := ct_tuple I h ru
    cases e with
    | dic _ _ => simp [noDic] at hm
    | scr _ => simp [noDic] at hm
    | nst _ => simp [noDic] at hm
    | exc _ _ _ _ => simp [noDic] at hm
    | non => cases q.non; cases rt; exact .tuple_none hl hu0
    | bl _ => cases q.bl; cases rt; exact .tuple_bool _ hl hu0
    | int _ => cases q.int; obtain ⟨_, rfl⟩ := rt; exact .tuple_int _ _ hl hu0
    | str _ => cases q.str; obtain ⟨_, rfl⟩ := rt; exact .tuple_str _ _ hl hu0
    | lst es => obtain ⟨_, _, _, rfl, rfl, _, _, _, l, _⟩ := ct_list I q rt; exact .tuple_list hl l hu0
    | tup es =>
      obtain ⟨b, ys, jts, rfl, rfl, _, hy, rw', hl', n2⟩ := ct_tuple I q rt
      rw [show eqvD (.tup ds) (.tup es) = eqvAll ds es from by rw [eqvD], ← eqvAll_eq ds es, ← n1, ← n2]
      have he : ∀ j (j1 : j < its.toArray.size) (j2 : j < jts.toArray.size), SeqAt.EqAt A.in1 s its.toArray[j] jts.toArray[j] (pairEq ds es j) := fun j j1 j2 => by
        have := eqAtAll I ds es A.in1 xs ys its jts hx hy rv rw' (by simpa [noDic] using hn) (by simpa [noDic] using hm) (by
          rw [deepD, deepD] at hu
          show A.units + 1 + _ < _
          omega) j (by simpa using j1) (by simpa using j2)
        simpa using this
      have k := SeqAt.RcNeAt.tuples hl hl' hu0 he
      simpa using k
  | lst ds =>
    obtain ⟨a, xs, its, rfl, rfl, _, hx, rv, hl, n1⟩ := ct_list I h ru
    cases e with
    | dic _ _ => simp [noDic] at hm
    | scr _ => simp [noDic] at hm
    | nst _ => simp [noDic] at hm
    | exc _ _ _ _ => simp [noDic] at hm
    | non => cases q.non; cases rt; exact .list_none hl hu0
    | bl _ => cases q.bl; cases rt; exact .list_bool _ hl hu0
    | int _ => cases q.int; obtain ⟨_, rfl⟩ := rt; exact .list_int _ _ hl hu0
    | str _ => cases q.str; obtain ⟨_, rfl⟩ := rt; exact .list_str _ _ hl hu0
    | tup es => obtain ⟨_, _, _, rfl, rfl, _, _, _, l, _⟩ := ct_tuple I q rt; exact .list_tuple hl l hu0
    | lst es =>
      obtain ⟨b, ys, jts, rfl, rfl, _, hy, rw', hl', n2⟩ := ct_list I q rt
      rw [show eqvD (.lst ds) (.lst es) = eqvAll ds es from by rw [eqvD]]
      by_cases hsz : its.length = jts.length
      · rw [← eqvAll_same_length (by omega : ds.length = es.length), ← n1]
        have he : ∀ j (j1 : j < its.toArray.size) (j2 : j < jts.toArray.size), SeqAt.EqAt A.in1 s its.toArray[j] jts.toArray[j] (pairEq ds es j) := fun j j1 j2 => by
          have := eqAtAll I ds es A.in1 xs ys its jts hx hy rv rw' (by simpa [noDic] using hn) (by simpa [noDic] using hm) (by
            rw [deepD, deepD] at hu
            show A.units + 1 + _ < _
            omega) j (by simpa using j1) (by simpa using j2)
          simpa using this
        have k := SeqAt.RcNeAt.lists hl hl' (by simpa using hsz) hu0 he
        simpa using k
      · rw [eqvAll_other_length (by omega : ds.length ≠ es.length)]
        exact SeqAt.RcNeAt.lists_lengths hl hl' (by simpa using hsz) hu0
end
def eqOk (d e : D) : Bool := noDic d && (noDic e && decide (min (deepD d) (deepD e) ≤ 64))
def eqD (d e : D) : Option D := if eqOk d e = true then some (.bl (eqvD d e)) else none
def neD (d e : D) : Option D := if eqOk d e = true then some (.bl (!eqvD d e)) else none
theorem eqOk_inv {d e : D} (h : eqOk d e = true) : noDic d = true ∧ noDic e = true ∧ min (deepD d) (deepD e) ≤ 64 := by
  unfold eqOk at h
  simp only [Bool.and_eq_true, decide_eq_true_eq] at h
  exact h
theorem op_eqDD {X : Cx} (hu : X.A.units + 64 < cLine) : OpR X (compareOp .Eq) (rV2 X.K eqD) := by
  intro pins s σ H x y v u Q I rx ry h
  obtain ⟨d, e, r, hd, he, hg, hb, q⟩ := h
  unfold eqD at hg
  split at hg
  · rename_i c
    cases hg
    obtain ⟨h1, h2, h3⟩ := eqOk_inv c
    exact rcAtD I d e X.A x y v u hd he rx ry h1 h2 (by omega) _ _ _ _ ⟨.bl _, H, I, rfl, q _ _ .self rfl⟩
  · cases hg
theorem op_neDD {X : Cx} (hu : X.A.units + 64 < cLine) : OpR X (compareOp .NotEq) (rV2 X.K neD) := by
  intro pins s σ H x y v u Q I rx ry h
  obtain ⟨d, e, r, hd, he, hg, hb, q⟩ := h
  unfold neD at hg
  split at hg
  · rename_i c
    cases hg
    obtain ⟨h1, h2, h3⟩ := eqOk_inv c
    exact rcNeAtD I d e X.A x y v u hd he rx ry h1 h2 (by omega) _ _ _ _ ⟨.bl _, H, I, rfl, q _ _ .self rfl⟩
  · cases hg
def ltD : D → D → Option D := intOp (fun _ _ => true) fun i j => .bl (decide (i < j))
def leD : D → D → Option D := intOp (fun _ _ => true) fun i j => .bl (decide (i ≤ j))
def gtD : D → D → Option D := intOp (fun _ _ => true) fun i j => .bl (decide (j < i))
def geD : D → D → Option D := intOp (fun _ _ => true) fun i j => .bl (decide (j ≤ i))
theorem op_ltDD {X : Cx} : OpR X (compareOp .Lt) (rV2 X.K ltD) := op_int0 op_lt fun _ _ _ _ => rfl
theorem op_leDD {X : Cx} : OpR X (compareOp .LtE) (rV2 X.K leD) := op_int0 op_le fun _ _ _ _ => rfl
theorem op_gtDD {X : Cx} : OpR X (compareOp .Gt) (rV2 X.K gtD) := op_int0 op_gt fun _ _ _ _ => rfl
theorem op_geDD {X : Cx} : OpR X (compareOp .GtE) (rV2 X.K geD) := op_int0 op_ge fun _ _ _ _ => rfl
def isNon : D → Bool
  | .non => true
  | _ => false
theorem isNon_ct {K : PySem.W.Frag} {H : Hp} {v : V} {d : D} (h : Ct K H v d) : decide (v = .non) = isNon d := by
  cases d with
  | non => rw [h.non]; rfl
  | bl _ => rw [h.bl]; rfl
  | int _ => rw [h.int]; rfl
  | str _ => rw [h.str]; rfl
  | tup _ => obtain ⟨a, _, z, _⟩ := h.tup; rw [z]; rfl
  | lst _ => obtain ⟨a, _, z, _⟩ := h.lst; rw [z]; rfl
  | dic _ _ => obtain ⟨a, z, _⟩ := h.dic; rw [z]; rfl
  | scr _ => obtain ⟨a, z, _⟩ := h.scr; rw [z]; rfl
  | nst _ => obtain ⟨a, _, z, _⟩ := h.nst; rw [z]; rfl
  | exc _ _ _ _ => obtain ⟨a, _, _, _, z, _⟩ := h.exc1; rw [z]; rfl
def isD (d e : D) : Option D := match e with
  | .non => some (.bl (isNon d))
  | _ => none
def isnotD (d e : D) : Option D := match e with
  | .non => some (.bl (!isNon d))
  | _ => none
theorem op_isD {X : Cx} : OpR X (compareOp .Is) (rV2 X.K isD) := by
  refine OpR.imp op_isN ?_
  rintro x y H Q ⟨d, e, r, hd, he, hg, hb, q⟩
  unfold isD at hg
  split at hg
  · cases hg
    rw [he.non, isNon_ct hd]
    exact ⟨rfl, q _ _ .self rfl⟩
  · cases hg
theorem op_isnotD {X : Cx} : OpR X (compareOp .IsNot) (rV2 X.K isnotD) := by
  refine OpR.imp op_notN ?_
  rintro x y H Q ⟨d, e, r, hd, he, hg, hb, q⟩
  unfold isnotD at hg
  split at hg
  · cases hg
    rw [he.non, isNon_ct hd]
    exact ⟨rfl, q _ _ .self rfl⟩
  · cases hg
end Dt

end
section
set_option maxRecDepth 100000
set_option autoImplicit false
namespace Dt
open PySem PySem.Spec L2

/-! ### freezing -/
def FrzQ (H : Hp) (Q : Hp → Prop) : Prop := Q H ∨ ∃ d u, H d = some u ∧ Mut (some u) ∧ ∀ od, Q (upd H d (.frz od u))
theorem pe_frz {X : Cx} {e : Expr} {t : TE} (h : PE X e t) : PE X e (fun σ H Q => t σ H fun v H1 => FrzQ H1 (Q v)) := by
  refine ⟨fun pins s σ H Q I hq => ?_⟩
  refine thn (h.run pins s σ H _ I hq) fun u s1 ⟨v, H1, I1, r, q⟩ => ?_
  rcases q with q | ⟨d, o, hd, mu, q⟩
  · exact ⟨v, H1, I1, r, q⟩
  · obtain ⟨od, I2⟩ := I1.lock hd mu
    exact ⟨v, _, I2, r, q od⟩
/-- one's own object, frozen, stays -/
theorem own_frz {K : PySem.W.Frag} {H : Hp} {a : Addr} {d : D} (h : OwnAt K H a d) : ∃ u, H a = some u ∧ Mut (some u) ∧ ∀ od, At K (upd H a (.frz od u)) d (.ref a) := by
  unfold OwnAt at h
  split at h
  · obtain ⟨xs, h, q⟩ := h
    refine ⟨_, h, trivial, fun od => ?_⟩
    unfold At
    exact ⟨a, xs, rfl, ⟨od, upd_same⟩, AtAll.ext (Evo.write (A := fun _ => True) h trivial trivial).ext _ _ q⟩
  · obtain ⟨xs, h, q⟩ := h
    refine ⟨_, h, trivial, fun od => ?_⟩
    unfold At
    exact ⟨a, od, rfl, xs, upd_same, AtK.ext (Evo.write (A := fun _ => True) h trivial trivial).ext _ _ q⟩
  · obtain ⟨xs, h, q⟩ := h
    refine ⟨_, h, trivial, fun od => ?_⟩
    unfold At
    exact ⟨a, od, rfl, xs, upd_same, AtT.ext (Evo.write (A := fun _ => True) h trivial trivial).ext _ _ q⟩
  · obtain ⟨xs, h, q⟩ := h
    refine ⟨_, h, trivial, fun od => ?_⟩
    unfold At
    exact ⟨a, od, rfl, xs, upd_same, AtN.ext (Evo.write (A := fun _ => True) h trivial trivial).ext _ _ q⟩
  · exact h.elim

section
variable {K : PySem.W.Frag} {σ : Sl} {H H' : Hp} {s : DSt}
theorem rel_slot (R : Rel0 K σ H s) {i : Nat} {r : RV} (h : s[i]? = some (some r)) : ∃ v, σ[i]? = some (some v) ∧ RvAt K H v r := R.ok i r h
/-- a slot's worth changed, its address the same -/
theorem Rel0.put {i : Nat} {r r' : RV} {a : Addr} (R : Rel0 K σ H s) (e : Evo (fun c => c = a) H H') (hs : s[i]? = some (some r)) (ho : r.isOwn = true) (hv : σ[i]? = some (some (.ref a))) (n : RvAt K H' (.ref a) r') : Rel0 K σ H' (s.set i (some r')) := by
  have hi : i < s.length := (List.getElem?_eq_some_iff.mp hs).1
  refine ⟨by rw [List.length_set]; exact R.len, fun j q hj => ?_, fun j k q q' b h1 h2 o1 o2 h3 h4 => ?_⟩
  · by_cases hji : i = j
    · subst hji
      rw [List.getElem?_set_self hi] at hj
      cases hj
      exact ⟨_, hv, n⟩
    · rw [List.getElem?_set_ne hji] at hj
      obtain ⟨v, h1, h2⟩ := R.ok j q hj
      refine ⟨v, h1, ?_⟩
      cases q with
      | val d => exact At.ext e.ext d v h2
      | own d =>
        obtain ⟨b, rfl, q⟩ := h2
        refine ⟨b, rfl, q.ext e.ext fun o hb => e.keep b o hb fun z => hji ?_⟩
        exact R.sep i j r _ a hs hj ho rfl hv (by rw [h1, z])
  · have back : ∀ (m : Nat) (p : RV), (s.set i (some r'))[m]? = some (some p) → p.isOwn = true → ∃ p', s[m]? = some (some p') ∧ p'.isOwn = true := fun m p hm po => by
      by_cases hmi : i = m
      · subst hmi
        exact ⟨r, hs, ho⟩
      · rw [List.getElem?_set_ne hmi] at hm
        exact ⟨p, hm, po⟩
    obtain ⟨p1, a1, b1⟩ := back j q h1 o1
    obtain ⟨p2, a2, b2⟩ := back k q' h2 o2
    exact R.sep j k p1 p2 b a1 a2 b1 b2 h3 h4
theorem Sub.put {i : Nat} {r r' : RV} (hs : s[i]? = some (some r)) (ho : r.isOwn = true) : Sub s (s.set i (some r')) := fun j q hj qo => by
  by_cases hji : i = j
  · subst hji
    exact ⟨r, hs, ho⟩
  · rw [List.getElem?_set_ne hji] at hj
    exact ⟨q, hj, qo⟩
end

/-! ### operands: a slot is read when the operation is done -/
inductive Opd where
  | v (m : M D) | slot (i : Nat)
def rdSlot (i : Nat) : M D := fun s => match s[i]? with
  | some (some r) => some (.ok r.d, s)
  | _ => none
def hasSlot (i : Nat) : M D := fun s => match s[i]? with
  | some (some _) => some (.ok .non, s)
  | _ => none
def Opd.start : Opd → M D
  | .v m => m
  | .slot i => hasSlot i
def Opd.read : Opd → D → M D
  | .v _, d => ret d
  | .slot i, _ => rdSlot i
def RPend (K : PySem.W.Frag) : Opd → Sl → Hp → Hp → V → D → Prop
  | .v _, _, _, H', v, d => At K H' d v
  | .slot i, σ, _, _, v, _ => σ[i]? = some (some v)
structure DO (X : Cx) (ec : EC) (E : L2.WX) (e : Expr) (o : Opd) : Prop where
  run : ∃ t, PE X e t ∧ Comes X.K ec E (RPend X.K o) o.start t
theorem RPend.ext {K : PySem.W.Frag} {o : Opd} {σ : Sl} {H H1 H2 : Hp} {v : V} {d : D} (h : RPend K o σ H H1 v d) (e : Ext H1 H2) : RPend K o σ H H2 v d := by
  cases o with
  | v m => exact At.ext e d v h
  | slot i => exact h
section
variable {K : PySem.W.Frag} {ec : EC} {E : L2.WX} {σ : Sl} {H : Hp} {s : DSt} {β : Type}
/-- reading an operand: what comes behind, with the content -/
theorem Post0.read {o : Opd} {d : D} {v : V} {f : D → M β} {k : β → DSt → Hp → Prop} {H0 : Hp} (h : Post0 K ec E σ H s k (Dt.bnd (o.read d) f s)) (R : Rel0 K σ H s) (p : RPend K o σ H0 H v d) : ∃ c, Ct K H v c ∧ Post0 K ec E σ H s k (f c s) := by
  cases o with
  | v m => exact ⟨d, .inl p, h⟩
  | slot i =>
    have h : Post0 K ec E σ H s k (Dt.bnd (rdSlot i) f s) := h
    have p : σ[i]? = some (some v) := p
    unfold Dt.bnd rdSlot at h
    cases e : s[i]? with
    | none => rw [e] at h; exact h.elim
    | some q =>
      rw [e] at h
      cases q with
      | none => exact h.elim
      | some r =>
        obtain ⟨w, h1, h2⟩ := R.ok i r e
        rw [p] at h1
        cases h1
        exact ⟨r.d, h2.ct, h⟩
end

section
variable {X : Cx} {ec : EC} {E : L2.WX} {a b c e : Expr} {es : List Expr} {pos : Pos}

theorem do_v {m : M D} (h : DV X ec E e m) : DO X ec E e (.v m) := by
  obtain ⟨t, h1, h2⟩ := h.run
  exact ⟨t, h1, h2⟩
/-- a value that is what it is -/
theorem dv_c {t : V} {d : D} (h : PE X e (tC t)) (hd : ∀ H, At X.K H d t) : DV X ec E e (ret d) :=
  DV.mk0 h fun σ H s Q hR hm => hm.ret H .refl hR.toRel0 _ (hd H)
theorem dv_int {i : Int} {j pos} : DV X ec E (.Constant (.int i) j pos) (ret (.int i)) := dv_c pe_int fun _ => rfl
theorem dv_bl {i : Bool} {j pos} : DV X ec E (.Constant (.bool i) j pos) (ret (.bl i)) := dv_c pe_bl fun _ => rfl
theorem dv_str {i : Str} {j pos} : DV X ec E (.Constant (.str i) j pos) (ret (.str i)) := dv_c pe_str fun _ => rfl
theorem dv_non {j pos} : DV X ec E (.Constant .none j pos) (ret .non) := dv_c pe_non fun _ => rfl

theorem do_slot {i : Nat} (h : PE X e (tVar i)) : DO X ec E e (.slot i) := by
  refine ⟨tVar i, h, fun σ H s Q hR hm => ?_⟩
  have hm : Post X.K ec E σ H s (fun r s' H' => ∀ g, RPend X.K (.slot i) σ H H' g r → Q g H') (hasSlot i s) := hm
  unfold hasSlot at hm
  cases q : s[i]? with
  | none => rw [q] at hm; exact hm.elim
  | some o =>
    rw [q] at hm
    cases o with
    | none => exact hm.elim
    | some r =>
      obtain ⟨v, h1, h2⟩ := hR.ok i r q
      exact ⟨v, h1, hm H .refl hR (Sub.refl _) v h1⟩
/-- a name's value, kept: it is frozen -/
def eName (i : Nat) : M D := fun s => match s[i]? with
  | some (some (.val d)) => some (.ok d, s)
  | some (some (.own d)) => some (.ok d, s.set i (some (.val d)))
  | _ => none
theorem dv_name {i : Nat} (h : PE X e (tVar i)) : DV X ec E e (eName i) := by
  refine DV.mk0 (pe_frz h) fun σ H s Q hR hm => ?_
  unfold eName at hm
  cases q : s[i]? with
  | none => rw [q] at hm; exact hm.elim
  | some o =>
    rw [q] at hm
    cases o with
    | none => exact hm.elim
    | some r =>
      obtain ⟨v, h1, h2⟩ := hR.ok i r q
      refine ⟨v, h1, ?_⟩
      cases r with
      | val d => exact .inl (hm H .refl hR.toRel0 (Sub.refl _) v h2)
      | own d =>
        obtain ⟨a, rfl, h3⟩ := h2
        obtain ⟨u, hu, mu, hf⟩ := own_frz h3
        refine .inr ⟨a, u, hu, mu, fun od => ?_⟩
        have ev : Evo (fun c => c = a) H (upd H a (.frz od u)) := .write hu mu rfl
        exact hm _ (.write hu mu ⟨i, _, q, rfl, h1⟩) (hR.toRel0.put ev q rfl h1 (hf od)) (Sub.put q rfl) _ (hf od)
/-- what is new, frozen -/
def frz (m : M RV) : M D := bnd m fun r => ret r.d
theorem own_new {K : PySem.W.Frag} {σ : Sl} {H : Hp} {s : DSt} (R : Rel0 K σ H s) {a : Addr} (h : H a = none) : ¬ OwnsA σ s a := fun z => by
  obtain ⟨o, e, _⟩ := R.there z
  rw [h] at e
  cases e
theorem DR.dv {m : M RV} (h : DR X ec E e m) : DV X ec E e (frz m) := by
  obtain ⟨t, h1, h2⟩ := h.run
  refine DV.mk0 (pe_frz h1) fun σ H s Q hR hm => ?_
  refine h2 σ H s _ hR (hm.bnd.imp fun r s1 H1 hms e1 R1 S1 hk v hv => ?_)
  cases r with
  | val d => exact .inl (hk.ret H1 .refl R1.toRel0 v hv)
  | own d =>
    obtain ⟨a, rfl, hn, h3⟩ := hv
    obtain ⟨u, hu, mu, hf⟩ := own_frz h3
    refine .inr ⟨a, u, hu, mu, fun od => ?_⟩
    have ev : Evo (fun c => c = a) H1 (upd H1 a (.frz od u)) := .write hu mu rfl
    have na : ¬ OwnsA σ s1 a := fun z => own_new hR.toRel0 hn (S1.owns z)
    have ev2 : Evo (OwnsA σ s) H (upd H1 a (.frz od u)) := e1.trans ev fun c z => .inr (by rw [z]; exact hn)
    have e : frz m s = some (.ok d, s1) := bnd_some hms
    rw [e] at hm
    exact hm _ ev2 (R1.toRel0.evo ev fun c z q => na (q ▸ z)) S1 _ (hf od)
theorem DV.dr {m : M D} (h : DV X ec E e m) : DR X ec E e (bnd m fun d => ret (.val d)) := by
  obtain ⟨t, h1, h2⟩ := h.run
  refine DR.mk0 h1 fun σ H s Q hR hm => ?_
  exact h2 σ H s _ hR (hm.bnd.imp fun r s1 H1 _ e1 R1 S1 hk v hv => hk.ret H1 .refl R1.toRel0 v hv)

/-! ### two operands -/
def bin2 (g : D → D → Option RV) (o p : Opd) : M RV := bnd o.start fun x => bnd p.start fun y => bnd (o.read x) fun d => bnd (p.read y) fun e => lift (g d e)
def binV (g : D → D → Option D) (o p : Opd) : M D := bnd o.start fun x => bnd p.start fun y => bnd (o.read x) fun d => bnd (p.read y) fun e => lift (g d e)
def blOf : D → Option Bool
  | .bl b => some b
  | _ => none
def binT (g : D → D → Option D) (o p : Opd) : M Bool := bnd o.start fun x => bnd p.start fun y => bnd (o.read x) fun d => bnd (p.read y) fun e => lift ((g d e).bind blOf)
theorem two {γ β : Type} {oa ob : Opd} (ha : DO X ec E a oa) (hb : DO X ec E b ob) :
    ∃ ta tb, PE X a ta ∧ PE X b tb ∧ ∀ (f : D → D → M β) (R : Sl → Hp → Hp → γ → β → Prop) (u : V → V → Hp → (γ → Hp → Prop) → Prop),
      (∀ σ H0 H s x y d e Q, Rel0 X.K σ H s → Bounded X.K H → Ct X.K H x d → Ct X.K H y e → (∀ p, H p = none → H0 p = none) → Post0 X.K ec E σ H s (fun r s' H' => ∀ g, R σ H0 H' g r → Q g H') (f d e s) → u x y H Q) →
      Comes0 X.K ec E R (bnd oa.start fun x => bnd ob.start fun y => bnd (oa.read x) fun d => bnd (ob.read y) fun e => f d e) (fun σ H Q => ta σ H fun x H1 => tb σ H1 fun y H2 => u x y H2 Q) := by
  obtain ⟨ta, h1, h2⟩ := ha.run
  obtain ⟨tb, h3, h4⟩ := hb.run
  refine ⟨ta, tb, h1, h3, fun f R u hu σ H s Q hR hm => ?_⟩
  refine h2 σ H s _ hR (hm.bnd.imp fun x0 s1 H1 _ e1 R1 S1 hk x hx => ?_)
  refine h4 σ H1 s1 _ R1 (hk.bnd.imp fun y0 s2 H2 _ e2 R2 S2 hk2 y hy => ?_)
  obtain ⟨d, cd, hk3⟩ := hk2.read R2.toRel0 (RPend.ext hx e2.ext)
  obtain ⟨e, ce, hk4⟩ := hk3.read R2.toRel0 hy
  exact hu σ H H2 s2 x y d e Q R2.toRel0 R2.bnd cd ce (fun p hp => e1.free p (e2.free p hp)) hk4
theorem RvNew.back {K : PySem.W.Frag} {H0 H H' : Hp} {v : V} {r : RV} (h : RvNew K H H' v r) (f : ∀ p, H p = none → H0 p = none) : RvNew K H0 H' v r := by
  cases r with
  | val d => exact h
  | own d =>
    obtain ⟨a, e, n, q⟩ := h
    exact ⟨a, e, f a n, q⟩
theorem dr_bin {op : Operator} {g : D → D → Option RV} {oa ob : Opd} (ho : OpR X (binaryOp op) (rC2 X.K g)) (ha : DO X ec E a oa) (hb : DO X ec E b ob) : DR X ec E (.BinOp a op b pos) (bin2 g oa ob) := by
  obtain ⟨ta, tb, h1, h2, h3⟩ := two (γ := V) (β := RV) ha hb
  refine DR.mk0 (pe_op ho h1 h2) (h3 (fun d e => lift (g d e)) (RNew X.K) (fun x y H Q => rC2 X.K g x y H Q) fun σ H0 H s x y d e Q hR hb cd ce hf hk => ?_)
  obtain ⟨r, hr, hk⟩ := hk.lift
  exact ⟨d, e, r, cd, ce, hr, hb, fun v H' ev hv => hk H' (ev.mono fun _ z => z.elim) (hR.evo0 ev) v (hv.back hf)⟩
theorem v2_use {g : D → D → Option D} {σ : Sl} {H0 H : Hp} {s : DSt} {x y : V} {d e : D} {Q : VK} (hR : Rel0 X.K σ H s) (hb : Bounded X.K H) (cd : Ct X.K H x d) (ce : Ct X.K H y e)
    (hk : Post0 X.K ec E σ H s (fun r s' H' => ∀ g, RVal X.K σ H0 H' g r → Q g H') (lift (g d e) s)) : rV2 X.K g x y H Q := by
  obtain ⟨r, hr, hk⟩ := hk.lift
  exact ⟨d, e, r, cd, ce, hr, hb, fun v H' ev hv => hk H' (ev.mono fun _ z => z.elim) (hR.evo0 ev) v hv⟩
theorem dv_bin {op : Operator} {g : D → D → Option D} {oa ob : Opd} (ho : OpR X (binaryOp op) (rV2 X.K g)) (ha : DO X ec E a oa) (hb : DO X ec E b ob) : DV X ec E (.BinOp a op b pos) (binV g oa ob) := by
  obtain ⟨ta, tb, h1, h2, h3⟩ := two (γ := V) (β := D) ha hb
  exact DV.mk0 (pe_op ho h1 h2) (h3 (fun d e => lift (g d e)) (RVal X.K) (fun x y H Q => rV2 X.K g x y H Q) fun σ H0 H s x y d e Q hR hb cd ce hf hk => v2_use hR hb cd ce hk)
theorem dv_cmp {op : CmpOp} {g : D → D → Option D} {oa ob : Opd} (ho : OpR X (compareOp op) (rV2 X.K g)) (ha : DO X ec E a oa) (hb : DO X ec E b ob) (hm : behindInMarks op b = false) : DV X ec E (.Compare a [op] [b] pos) (binV g oa ob) := by
  obtain ⟨ta, tb, h1, h2, h3⟩ := two (γ := V) (β := D) ha hb
  exact DV.mk0 (pe_cmpR ho h1 h2 hm) (h3 (fun d e => lift (g d e)) (RVal X.K) (fun x y H Q => rV2 X.K g x y H Q) fun σ H0 H s x y d e Q hR hb cd ce hf hk => v2_use hR hb cd ce hk)
theorem dt_cmp {op : CmpOp} {g : D → D → Option D} {oa ob : Opd} (ho : OpR X (compareOp op) (rV2 X.K g)) (ha : DO X ec E a oa) (hb : DO X ec E b ob) (hm : behindInMarks op b = false) : DT X ec E (.Compare a [op] [b] pos) (binT g oa ob) := by
  obtain ⟨ta, tb, h1, h2, h3⟩ := two (γ := Bool) (β := Bool) ha hb
  refine DT.mk0 (pt_cmpR ho h1 h2 hm) (h3 (fun d e => lift ((g d e).bind blOf)) RBl (fun x y H Q => rV2 X.K g x y H fun x H' => ∃ k, x = .bl k ∧ Q k H') fun σ H0 H s x y d e Q hR hb cd ce hf hk => ?_)
  obtain ⟨r, hr, hk⟩ := hk.lift
  cases hg : g d e with
  | none => rw [hg] at hr; cases hr
  | some w =>
    rw [hg] at hr
    have hw : blOf w = some r := hr
    cases w with
    | bl k =>
      have hw : k = r := Option.some.inj hw
      subst hw
      exact ⟨d, e, _, cd, ce, hg, hb, fun v H' ev hv => ⟨k, hv, hk H' (ev.mono fun _ z => z.elim) (hR.evo0 ev) k rfl⟩⟩
    | _ => cases hw
end
end Dt

end
section
set_option maxRecDepth 100000
set_option autoImplicit false
namespace Dt
open PySem PySem.Spec PyProof.Rows L2

/-! ### keys -/
def atomD : D → Option Key
  | .int i => some (.inl i)
  | .str x => some (.inr x)
  | _ => none
def atomsD : List D → Option (List Key)
  | [] => some []
  | d :: ds => match atomD d, atomsD ds with
    | some k, some ks => some (k :: ks)
    | _, _ => none
def keyD : Bool → D → Option DK
  | false, d => (atomD d).map ofKey
  | true, .tup ds => (atomsD ds).map ofKeys
  | true, _ => none
theorem ofKey_inj {a b : Key} (h : ofKey a = ofKey b) : a = b := by
  cases a <;> cases b <;> simp [ofKey] at h <;> rw [h]
theorem ofKeys_inj {a b : List Key} (h : ofKeys a = ofKeys b) : a = b := by
  unfold ofKeys at h
  injection h with h
  exact (List.map_inj_right fun _ _ => ofKey_inj).mp h
def lookD (kvs : List (DK × D)) (k : DK) : Option D := match kvs with
  | [] => none
  | (j, d) :: r => if j = k then some d else lookD r k
def putD (kvs : List (DK × D)) (k : DK) (v : D) : List (DK × D) := match kvs with
  | [] => [(k, v)]
  | (j, d) :: r => if j = k then (j, v) :: r else (j, d) :: putD r k v
section
variable {K : PySem.W.Frag} {H : Hp}
theorem AtK.nil : AtK K H [] [] := by unfold AtK; rfl
theorem AtK.cons {k : Key} {d : D} {v : V} {kvs : List (DK × D)} {es : List (Key × V)} (h : At K H d v) (t : AtK K H kvs es) : AtK K H ((ofKey k, d) :: kvs) ((k, v) :: es) := by
  unfold AtK; exact ⟨k, v, es, rfl, rfl, h, t⟩
theorem AtK.inv0 {es : List (Key × V)} (h : AtK K H [] es) : es = [] := by unfold AtK at h; exact h
theorem AtK.inv {k : DK} {d : D} {r : List (DK × D)} {es : List (Key × V)} (h : AtK K H ((k, d) :: r) es) : ∃ k' x r', es = (k', x) :: r' ∧ k = ofKey k' ∧ At K H d x ∧ AtK K H r r' := by unfold AtK at h; exact h
theorem AtT.nil : AtT K H [] [] := by unfold AtT; rfl
theorem AtT.cons {k : List Key} {d : D} {v : V} {kvs : List (DK × D)} {es : List (List Key × V)} (h : At K H d v) (t : AtT K H kvs es) (hk : k ≠ []) : AtT K H ((ofKeys k, d) :: kvs) ((k, v) :: es) := by
  unfold AtT; exact ⟨k, v, es, rfl, ⟨rfl, hk⟩, h, t⟩
theorem AtT.inv0 {es : List (List Key × V)} (h : AtT K H [] es) : es = [] := by unfold AtT at h; exact h
theorem AtT.inv {k : DK} {d : D} {r : List (DK × D)} {es : List (List Key × V)} (h : AtT K H ((k, d) :: r) es) : ∃ k' x r', es = (k', x) :: r' ∧ k = ofKeys k' ∧ At K H d x ∧ AtT K H r r' := by unfold AtT at h; obtain ⟨k', x, r', e, f, g, t⟩ := h; exact ⟨k', x, r', e, f.1, g, t⟩
theorem AtT.ne {k : DK} {d : D} {r : List (DK × D)} {k' : List Key} {x : V} {r' : List (List Key × V)} (h : AtT K H ((k, d) :: r) ((k', x) :: r')) : k' ≠ [] := by
  unfold AtT at h
  obtain ⟨k2, x2, r2, e, f, _⟩ := h
  cases e
  exact f.2
/-- what stands at a key -/
def LookR (K : PySem.W.Frag) (H : Hp) (o : Option D) (r : Option V) : Prop := match o with
  | some d => ∃ v, r = some v ∧ At K H d v
  | none => r = none
theorem AtK.look : ∀ {kvs : List (DK × D)} {es : List (Key × V)} (k : Key), AtK K H kvs es → LookR K H (lookD kvs (ofKey k)) (valV es k)
  | [], _, k, h => by rw [h.inv0]; rfl
  | (j, d) :: r, _, k, h => by
    obtain ⟨k', x, r', rfl, rfl, h1, h2⟩ := h.inv
    unfold lookD
    by_cases e : k' = k
    · subst e
      rw [if_pos rfl, valV_pos rfl]
      exact ⟨x, rfl, h1⟩
    · rw [if_neg (fun z => e (ofKey_inj z)), valV_neg e]
      exact h2.look k
theorem AtT.look : ∀ {kvs : List (DK × D)} {es : List (List Key × V)} (k : List Key), AtT K H kvs es → LookR K H (lookD kvs (ofKeys k)) (valV es k)
  | [], _, k, h => by rw [h.inv0]; rfl
  | (j, d) :: r, _, k, h => by
    obtain ⟨k', x, r', rfl, rfl, h1, h2⟩ := h.inv
    unfold lookD
    by_cases e : k' = k
    · subst e
      rw [if_pos rfl, valV_pos rfl]
      exact ⟨x, rfl, h1⟩
    · rw [if_neg (fun z => e (ofKeys_inj z)), valV_neg e]
      exact h2.look k
theorem putK_cons {κ : Type} [DecidableEq κ] {k j : κ} {v x : V} {r : List (κ × V)} (nd : (((j, x) :: r).map (·.1)).Nodup) : putK ((j, x) :: r) k v = if j = k then (j, v) :: r else (j, x) :: putK r k v := by
  unfold putK
  rw [List.any_cons]
  by_cases e : j = k
  · subst e
    rw [if_pos (by simp), if_pos rfl]
    have hn : j ∉ r.map (·.1) := by
      rw [List.map_cons, List.nodup_cons] at nd
      exact nd.1
    rw [List.map_cons, if_pos rfl]
    congr 1
    have hh : ∀ p ∈ r, (if p.1 = j then (p.1, v) else p) = p := fun p hp => if_neg (fun z : p.1 = j => hn (by rw [← z]; exact List.mem_map.mpr ⟨p, hp, rfl⟩))
    rw [List.map_congr_left hh, List.map_id']
  · rw [if_neg e]
    have e1 : decide ((j, x).1 = k) = false := decide_eq_false e
    rw [e1, Bool.false_or]
    by_cases q : (r.any fun kv => decide (kv.1 = k)) = true
    · rw [if_pos q, if_pos q, List.map_cons, if_neg e]
    · rw [if_neg q, if_neg q]
      rfl
theorem AtK.put : ∀ {kvs : List (DK × D)} {es : List (Key × V)} (k : Key) {d : D} {v : V}, (es.map (·.1)).Nodup → AtK K H kvs es → At K H d v → AtK K H (putD kvs (ofKey k) d) (putK es k v)
  | [], _, k, d, v, nd, h, q => by
    rw [h.inv0]
    exact AtK.cons q .nil
  | (j, c) :: r, _, k, d, v, nd, h, q => by
    obtain ⟨k', x, r', rfl, rfl, h1, h2⟩ := h.inv
    rw [putK_cons nd]
    unfold putD
    by_cases e : k' = k
    · subst e
      rw [if_pos rfl, if_pos rfl]
      exact AtK.cons q h2
    · rw [if_neg (fun z => e (ofKey_inj z)), if_neg e]
      rw [List.map_cons, List.nodup_cons] at nd
      exact AtK.cons h1 (h2.put k nd.2 q)
theorem AtT.put : ∀ {kvs : List (DK × D)} {es : List (List Key × V)} (k : List Key) {d : D} {v : V}, (es.map (·.1)).Nodup → AtT K H kvs es → At K H d v → k ≠ [] → AtT K H (putD kvs (ofKeys k) d) (putK es k v)
  | [], _, k, d, v, nd, h, q, hk => by
    rw [h.inv0]
    exact AtT.cons q .nil hk
  | (j, c) :: r, _, k, d, v, nd, h, q, hk => by
    obtain ⟨k', x, r', rfl, rfl, h1, h2⟩ := h.inv
    rw [putK_cons nd]
    unfold putD
    by_cases e : k' = k
    · subst e
      rw [if_pos rfl, if_pos rfl]
      exact AtT.cons q h2 hk
    · rw [if_neg (fun z => e (ofKeys_inj z)), if_neg e]
      rw [List.map_cons, List.nodup_cons] at nd
      exact AtT.cons h1 (h2.put k nd.2 q hk) h.ne
theorem AtK.len : ∀ {kvs : List (DK × D)} {es : List (Key × V)}, AtK K H kvs es → es.length = kvs.length
  | [], _, h => by rw [h.inv0]; rfl
  | (j, c) :: r, _, h => by
    obtain ⟨k', x, r', rfl, rfl, h1, h2⟩ := h.inv
    simp only [List.length_cons, h2.len]
theorem AtT.len : ∀ {kvs : List (DK × D)} {es : List (List Key × V)}, AtT K H kvs es → es.length = kvs.length
  | [], _, h => by rw [h.inv0]; rfl
  | (j, c) :: r, _, h => by
    obtain ⟨k', x, r', rfl, rfl, h1, h2⟩ := h.inv
    simp only [List.length_cons, h2.len]
theorem atom_at {d : D} {v : V} {k : Key} (h : Ct K H v d) (e : atomD d = some k) : v = kV k := by
  unfold atomD at e
  split at e
  · cases e; exact h.int
  · cases e; exact h.str
  · cases e
theorem atoms_at : ∀ {ds : List D} {xs : List V} {ks : List Key}, AtAll K H ds xs → atomsD ds = some ks → xs = ks.map kV
  | [], _, ks, h, e => by
    rw [h.inv0]
    have e : some [] = some ks := e
    cases e
    rfl
  | d :: ds, _, ks, h, e => by
    obtain ⟨x, r, rfl, h1, h2⟩ := h.inv
    unfold atomsD at e
    split at e
    · rename_i a b e1 e2
      cases e
      rw [atom_at h1.ct e1, atoms_at h2 e2]
      rfl
    · cases e
end

/-! ### what a dict holds -/
def DG (K : PySem.W.Frag) (H : Hp) (a : Addr) (y : V) (r : Option V) : Prop :=
  (∃ es k, Rd H a (.dK es) ∧ y = kV k ∧ r = valV es k) ∨ ∃ es k b, Rd H a (.dT es) ∧ y = .ref b ∧ SqT K H b (k.map kV) ∧ r = valV es k
theorem ct_dg {K : PySem.W.Frag} {H : Hp} {t : Bool} {kvs : List (DK × D)} {x y : V} {k : D} {κ : DK} (h : Ct K H x (.dic t kvs)) (q : Ct K H y k) (e : keyD t k = some κ) :
    ∃ a r, x = .ref a ∧ DG K H a y r ∧ LookR K H (lookD kvs κ) r := by
  cases t with
  | false =>
    obtain ⟨a, es, rfl, h1, h2⟩ := h.dicK
    obtain ⟨j, e1, e2⟩ := Option.map_eq_some_iff.mp (show (atomD k).map ofKey = some κ from e)
    subst e2
    exact ⟨a, _, rfl, .inl ⟨es, j, h1, atom_at q e1, rfl⟩, h2.look j⟩
  | true =>
    obtain ⟨a, es, rfl, h1, h2⟩ := h.dicT
    cases k with
    | tup ds =>
      obtain ⟨j, e1, e2⟩ := Option.map_eq_some_iff.mp (show (atomsD ds).map ofKeys = some κ from e)
      subst e2
      obtain ⟨b, xs, rfl, h3, h4⟩ := q.tup
      have ex := atoms_at h4 e1
      subst ex
      exact ⟨a, _, rfl, .inr ⟨es, j, b, h1, rfl, h3, rfl⟩, h2.look j⟩
    | _ => cases e
section
variable {X : Cx} {pins : List (Addr × Obj)} {σ : Sl} {H : Hp} {s : Shared} {a : Addr} {y v : V} {u r : Value} {o : Option V} {A : Around} {E : Value → Shared → Prop}
theorem keyT_of (I : Inv X pins σ H s) {b : Addr} {ks : List Key} (h : SqT X.K H b (ks.map kV)) : (tupleKind (mixKind X.prog X.w)).is s.heap ks b := by
  obtain ⟨its, rv, ⟨o, h1, h2, n, h3⟩, _⟩ := I.tuple h
  exact ⟨o, its.toArray, n, h1, h2, h3, by simpa using items_are rv⟩
theorem g_getItem {Q : Value → Shared → Prop} (hu : A.units + 1 < cLine) (I : Inv X pins σ H s) (g : DG X.K H a y (some v)) (ry : RelV y u) (h : ∀ w' s', Inv X pins σ H s' → RelV v w' → Q w' s') :
    wpAny (model X.prog X.w) A (getItem (.ref a) u) Q E s := by
  rcases g with ⟨kvs, k, e, ey, l⟩ | ⟨kvs, k, b, e, ey, eb, l⟩
  · exact d_getItem hu I (.inl ⟨kvs, k, e, ey, l⟩) ry h
  · subst ey
    cases (show u = Value.ref b from ry)
    obtain ⟨z, hd, xs, rel, dd⟩ := dt_rd I.hok e
    obtain ⟨w', hw, rw'⟩ := RelO.some_of (v := v) (o := (atKey xs k).map (·.2)) (by rw [l]; exact rel.val k)
    obtain ⟨p, hp, hp2⟩ := Option.map_eq_some_iff.mp hw
    refine wpAny_getItem_heap (tupleKind_room_in1 hu) (keyT_of I eb) dd hp ?_
    rw [hp2]
    exact h w' _ (I.tok _) rw'
theorem g_in {Q : Value → Shared → Prop} (hu : A.units + 1 < cLine) (I : Inv X pins σ H s) (g : DG X.K H a y o) (ry : RelV y u) (h : ∀ s', Inv X pins σ H s' → Q (.bool o.isSome) s') :
    wpAny (model X.prog X.w) A (compareOp .In u (.ref a)) Q E s := by
  rcases g with ⟨kvs, k, e, ey, l⟩ | ⟨kvs, k, b, e, ey, eb, l⟩
  · exact d_in hu I (.inl ⟨kvs, k, e, ey, l⟩) ry h
  · subst ey
    cases (show u = Value.ref b from ry)
    obtain ⟨z, hd, xs, rel, dd⟩ := dt_rd I.hok e
    refine wpAny_in_heap (tupleKind_room_in1 hu) (keyT_of I eb) hd dd ?_
    have q := (rel.val k).isSome_eq
    rw [Option.isSome_map] at q
    rw [← q, ← l]
    exact h _ (I.tok _)
theorem g_notIn {Q : Value → Shared → Prop} (hu : A.units + 1 < cLine) (I : Inv X pins σ H s) (g : DG X.K H a y o) (ry : RelV y u) (h : ∀ s', Inv X pins σ H s' → Q (.bool (!o.isSome)) s') :
    wpAny (model X.prog X.w) A (compareOp .NotIn u (.ref a)) Q E s := by
  rcases g with ⟨kvs, k, e, ey, l⟩ | ⟨kvs, k, b, e, ey, eb, l⟩
  · exact d_notIn hu I (.inl ⟨kvs, k, e, ey, l⟩) ry h
  · subst ey
    cases (show u = Value.ref b from ry)
    obtain ⟨z, hd, xs, rel, dd⟩ := dt_rd I.hok e
    refine wpAny_notIn_heap (tupleKind_room_in1 hu) (keyT_of I eb) hd dd ?_
    have q := (rel.val k).isSome_eq
    rw [Option.isSome_map] at q
    rw [← q, ← l]
    exact h _ (I.tok _)
theorem g_get1 {Q : Value → Shared → Prop} (hu : A.units + 1 < cLine) (I : Inv X pins σ H s) (g : DG X.K H a y o) (ry : RelV y u) (h : ∀ w' s', Inv X pins σ H s' → RelV (o.getD .non) w' → Q w' s') :
    wpAny (model X.prog X.w) A (call (.builtin "dict.get") [.ref a, u]) Q E s := by
  rcases g with ⟨kvs, k, e, ey, l⟩ | ⟨kvs, k, b, e, ey, eb, l⟩
  · exact d_get1 hu I (.inl ⟨kvs, k, e, ey, l⟩) ry h
  · subst ey
    cases (show u = Value.ref b from ry)
    obtain ⟨z, hd, xs, rel, dd⟩ := dt_rd I.hok e
    refine call_meetsIn PySem.F.slot_dict_get dd.typeIs PySem.F.entry_dict_get (PySem.F.args_dict_get_2 _ _) (meetsH_dict_get (tupleKind (mixKind X.prog X.w)) a b hd) ⟨tupleKind_room_in1 hu, k, xs, keyT_of I eb, dd, h _ _ (I.tok _) ?_⟩
    rw [l]
    exact (rel.val k).getD rfl
theorem g_get2 {d : V} {Q : Value → Shared → Prop} (hu : A.units + 1 < cLine) (I : Inv X pins σ H s) (g : DG X.K H a y o) (ry : RelV y u) (rd : RelV d r) (h : ∀ w' s', Inv X pins σ H s' → RelV (o.getD d) w' → Q w' s') :
    wpAny (model X.prog X.w) A (call (.builtin "dict.get") [.ref a, u, r]) Q E s := by
  rcases g with ⟨kvs, k, e, ey, l⟩ | ⟨kvs, k, b, e, ey, eb, l⟩
  · exact d_get2 hu I (.inl ⟨kvs, k, e, ey, l⟩) ry rd h
  · subst ey
    cases (show u = Value.ref b from ry)
    obtain ⟨z, hd, xs, rel, dd⟩ := dt_rd I.hok e
    refine call_meetsIn PySem.F.slot_dict_get dd.typeIs PySem.F.entry_dict_get (PySem.F.args_dict_get_3 _ _ _) (meetsH_dict_get_default (tupleKind (mixKind X.prog X.w)) a b hd r) ⟨tupleKind_room_in1 hu, k, xs, keyT_of I eb, dd, h _ _ (I.tok _) ?_⟩
    rw [l]
    exact (rel.val k).getD rd
end

/-! ### a[b] -/
def itemD : D → D → Option D
  | .tup ds, .int i => atI ds i
  | .lst ds, .int i => atI ds i
  | .scr ns, .int i => (atI ns i).map .int
  | .str z, .int i => if z.length ≤ sizeLine then (atI z.cps.toList i).map fun c => .str ⟨#[c]⟩ else none
  | .dic t kvs, k => (keyD t k).bind fun κ => lookD kvs κ
  | _, _ => none
section
variable {X : Cx}
theorem ix_dict (hu : X.A.units + 1 < cLine) : IxR X (fun x y H Q => ∃ a v, x = .ref a ∧ DG X.K H a y (some v) ∧ Q v H) := by
  intro value slice pins s σ H x y v u Q I rx ry h hs
  obtain ⟨a, w, rfl, g, q⟩ := h
  cases rx
  have hT : s.TypeIs (.ref a) "dict" := by
    rcases g with ⟨es, k, e, _, _⟩ | ⟨es, k, b, e, _, _, _⟩
    · obtain ⟨_, _, vs, _, dd⟩ := dk_rd I.hok e
      exact dd.typeIs
    · obtain ⟨_, _, xs, _, dd⟩ := dt_rd I.hok e
      exact dd.typeIs
  unfold subscriptTail
  refine wpAny_bind ?_
  rw [getitemInPython_of_ne hT.not_modules]
  refine wpAny_bind (wpAny_specialOf hT PySem.F.slot_dict_getitem.lookup ?_)
  have fin : wpAny (model X.prog X.w) X.A (subscripted slice false (.ref a) u) (fun r s₃ => wpAny (model X.prog X.w) X.A (letTemporaryGo value (.ref a) r >>= fun _ => pure r) (EP X pins σ Q) X.xe s₃) X.xe s := by
    rw [hs]
    exact wpAny_operating (wpAny_mono (g_getItem (Q := fun w' s' => EP X pins σ Q w' s') hu I g ry fun w' s3 I3 rw' => ⟨w, H, I3, rw', q⟩) (fun r s₃ h₃ => wpAny_bind (wpAny_letTemporaryGo (wpAny_pure h₃))) fun _ _ x => x)
  first
    | exact wpAny_pure (wpAny_bind fin)
    | exact wpAny_bind (wpAny_pure (wpAny_bind fin))
    | exact wpAny_bind fin
theorem IxR.imp {r r' : R2} (h : IxR X r) (i : ∀ x y H Q, r' x y H Q → r x y H Q) : IxR X r' := fun value slice pins s σ H x y v u Q I rx ry q hs => h value slice pins s σ H x y v u Q I rx ry (i x y H Q q) hs
theorem ix_itemD (hu : X.A.units + 1 < cLine) : IxR X (rV2 X.K itemD) := by
  refine IxR.imp ((ix_seq).or (ix_dict hu)) ?_
  rintro x y H Q ⟨d, e, r, hd, he, hg, hb, q⟩
  unfold itemD at hg
  split at hg
  · obtain ⟨a, xs, rfl, h1, h2⟩ := hd.tup
    obtain ⟨w, h3, h4⟩ := h2.ai hg
    exact .inl (.inr (.inl ⟨a, xs, _, w, rfl, he.int, h1, h3, q _ _ .self h4⟩))
  · obtain ⟨a, xs, rfl, h1, h2⟩ := hd.lst
    obtain ⟨w, h3, h4⟩ := h2.ai hg
    exact .inl (.inl ⟨a, xs, _, w, rfl, he.int, .inl h1, h3, q _ _ .self h4⟩)
  · obtain ⟨w, h3, h4⟩ := Option.map_eq_some_iff.mp hg
    subst h4
    obtain ⟨a, rfl, h1⟩ := hd.scr
    refine .inl (.inl ⟨a, _, _, .int w, rfl, he.int, h1.sql, ?_, q _ _ .self rfl⟩)
    unfold atI at h3 ⊢
    rw [List.length_map]
    revert h3
    cases ixN _ _ with
    | none => exact fun z => nomatch z
    | some j => intro h3; show (List.map _ _)[j]? = _; rw [List.getElem?_map, show _[j]? = some w from h3]; rfl
  · split at hg
    · rename_i hz
      obtain ⟨c, h1, h2⟩ := Option.map_eq_some_iff.mp hg
      subst h2
      exact .inl (.inr (.inr ⟨_, _, c, hd.str, he.int, hz, h1, q _ _ .self rfl⟩))
    · cases hg
  · obtain ⟨κ, h1, h2⟩ := Option.bind_eq_some_iff.mp hg
    obtain ⟨a, w, rfl, g, l⟩ := ct_dg hd he h1
    rw [h2] at l
    obtain ⟨v, rfl, hv⟩ := l
    exact .inr ⟨a, v, rfl, g, q _ _ .self hv⟩
  · cases hg
variable {ec : EC} {E : L2.WX} {a b : Expr} {pos : Pos}
theorem dv_ix {oa ob : Opd} (hu : X.A.units + 1 < cLine) (ha : DO X ec E a oa) (hb : DO X ec E b ob) (hs : PlainIx b) : DV X ec E (.Subscript a b pos) (binV itemD oa ob) := by
  obtain ⟨ta, tb, h1, h2, h3⟩ := two (γ := V) (β := D) ha hb
  exact DV.mk0 (pe_ix (ix_itemD hu) h1 h2 hs) (h3 (fun d e => lift (itemD d e)) (RVal X.K) (fun x y H Q => rV2 X.K itemD x y H Q) fun σ H0 H s x y d e Q hR hb cd ce hf hk => v2_use hR hb cd ce hk)
end
end Dt

end
section
set_option maxRecDepth 100000
set_option autoImplicit false
namespace Dt
open PySem PySem.Spec PyProof.Rows L2

/-! ### in -/
section
variable {X : Cx} {pins : List (Addr × Obj)} {σ : Sl} {H : Hp} {s : Shared}
open Classical in
/-- what a value's data are, read off the state -/
noncomputable def datOf (X : Cx) (H : Hp) (u : Value) : D := if h : ∃ y d, RelV y u ∧ At X.K H d y ∧ noDic d = true then h.choose_spec.choose else .non
theorem datOf_eq (I : Inv X pins σ H s) {u : Value} {y : V} {d : D} (r : RelV y u) (h : At X.K H d y) (n : noDic d = true) : datOf X H u = d := by
  unfold datOf
  have ex : ∃ y d, RelV y u ∧ At X.K H d y ∧ noDic d = true := ⟨y, d, r, h, n⟩
  rw [dif_pos ex]
  obtain ⟨r', h', n'⟩ := ex.choose_spec.choose_spec
  have e := RelV.inj r' r
  exact Ct.uniq I _ _ _ n' n h'.ct (by rw [e]; exact h.ct)
theorem any_dat (I : Inv X pins σ H s) (x : D) : ∀ {ds : List D} {xs : List V} {us : List Value}, AtAll X.K H ds xs → Vals xs us → noDics ds = true → us.any (fun u => eqvD (datOf X H u) x) = ds.any fun z => eqvD z x
  | [], _, _, h, r, _ => by rw [h.inv0] at r; cases r; rfl
  | d :: ds, _, _, h, r, n => by
    obtain ⟨y, ys, rfl, h1, h2⟩ := h.inv
    have n' : noDic d = true ∧ noDics ds = true := by simpa [noDics] using n
    cases r with
    | cons r1 r2 => rw [List.any_cons, List.any_cons, datOf_eq I r1 h1 n'.1, any_dat I x h2 r2 n'.2]
theorem mem_dat (I : Inv X pins σ H s) {A : Around} {x : D} {w : V} {t : Value} (hx : Ct X.K H w x) (rt : RelV w t) (nx : noDic x = true) (hu : A.units + deepD x < cLine) : ∀ {ds : List D} {xs : List V} {us : List Value}, AtAll X.K H ds xs → Vals xs us → noDics ds = true →
    ∀ u ∈ us, SeqAt.EqAt A s u t (eqvD (datOf X H u) x)
  | [], _, _, h, r, _ => fun u hu => by rw [h.inv0] at r; cases r; cases hu
  | d :: ds, _, _, h, r, n => fun u hu' => by
    obtain ⟨y, ys, rfl, h1, h2⟩ := h.inv
    have n' : noDic d = true ∧ noDics ds = true := by simpa [noDics] using n
    cases r with
    | cons r1 r2 =>
      rcases List.mem_cons.mp hu' with rfl | hu'
      · rw [datOf_eq I r1 h1 n'.1]
        exact eqAtD I d x A y w _ t h1.ct hx r1 rt n'.1 nx (by omega)
      · exact mem_dat I hx rt nx hu h2 r2 n'.2 u hu'
end
def inOk (x : D) (ds : List D) : Bool := noDic x && (noDics ds && decide (deepD x ≤ 60))
theorem inOk_inv {x : D} {ds : List D} (h : inOk x ds = true) : noDic x = true ∧ noDics ds = true ∧ deepD x ≤ 60 := by
  unfold inOk at h
  simp only [Bool.and_eq_true, decide_eq_true_eq] at h
  exact h
/-- x in y -/
def inB : D → D → Option Bool
  | x, .dic t kvs => (keyD t x).map fun κ => (lookD kvs κ).isSome
  | x, .lst ds => if inOk x ds = true then some (ds.any fun z => eqvD z x) else none
  | x, .tup ds => if inOk x ds = true then some (ds.any fun z => eqvD z x) else none
  | .str a, .str b => some (!(Builtin.Str.occurrences b a 0 b.length 1).isEmpty)
  | _, _ => none
def inD (x y : D) : Option D := (inB x y).map fun b => .bl b
def notinD (x y : D) : Option D := (inB x y).map fun b => .bl (!b)
theorem LookR.isSome {K : PySem.W.Frag} {H : Hp} {o : Option D} {r : Option V} (h : LookR K H o r) : r.isSome = o.isSome := by
  cases o with
  | none => rw [show r = none from h]; rfl
  | some d => obtain ⟨v, e, _⟩ := h; rw [e]; rfl
section
variable {X : Cx}
theorem op_inD (hu : X.A.units + 64 < cLine) : OpR X (compareOp .In) (rV2 X.K inD) := by
  intro pins s σ H x y v u Q I rx ry h
  obtain ⟨d, e, r, hd, he, hg, hb, q⟩ := h
  obtain ⟨b, hg2, hr⟩ := Option.map_eq_some_iff.mp hg
  subst hr
  clear hg
  have fin : EP X pins σ Q (.bool b) s := ⟨.bl b, H, I, rfl, q _ _ .self rfl⟩
  unfold inB at hg2
  split at hg2
  · obtain ⟨κ, h1, h2⟩ := Option.map_eq_some_iff.mp hg2
    obtain ⟨a, w, rfl, g, l⟩ := ct_dg he hd h1
    cases ry
    refine g_in (by omega) I g rx fun s' I' => ?_
    rw [l.isSome, h2]
    exact ⟨.bl b, H, I', rfl, q _ _ .self rfl⟩
  · split at hg2
    · rename_i c
      cases hg2
      obtain ⟨h1, h2, h3⟩ := inOk_inv c
      obtain ⟨a, xs, its, rfl, rfl, _, hx, rv, hl, n1⟩ := ct_list I he ry
      refine SeqAt.in_listAt (fun u => eqvD (datOf X H u) _) hl (fun w hw => mem_dat (A := X.A.in1) I hd rx h1 (by show X.A.units + 1 + _ < _; omega) hx rv h2 w (by simpa using hw)) ?_
      rw [show its.toArray.any (fun u => eqvD (datOf X H u) d) = its.any (fun u => eqvD (datOf X H u) d) by simp, any_dat I d hx rv h2]
      exact fin
    · cases hg2
  · split at hg2
    · rename_i c
      cases hg2
      obtain ⟨h1, h2, h3⟩ := inOk_inv c
      obtain ⟨a, xs, its, rfl, rfl, _, hx, rv, hl, n1⟩ := ct_tuple I he ry
      refine SeqAt.in_tupleAt (fun u => eqvD (datOf X H u) _) hl (fun w hw => mem_dat (A := X.A.in1) I hd rx h1 (by show X.A.units + 1 + _ < _; omega) hx rv h2 w (by simpa using hw)) ?_
      rw [show its.toArray.any (fun u => eqvD (datOf X H u) d) = its.any (fun u => eqvD (datOf X H u) d) by simp, any_dat I d hx rv h2]
      exact fin
    · cases hg2
  · cases hg2
    refine op_in_str pins s σ H x y v u Q I rx ry ⟨_, _, hd.str, he.str, q _ _ .self rfl⟩
  · cases hg2
theorem op_notinD (hu : X.A.units + 64 < cLine) : OpR X (compareOp .NotIn) (rV2 X.K notinD) := by
  intro pins s σ H x y v u Q I rx ry h
  obtain ⟨d, e, r, hd, he, hg, hb, q⟩ := h
  obtain ⟨b, hg2, hr⟩ := Option.map_eq_some_iff.mp hg
  subst hr
  clear hg
  have fin : EP X pins σ Q (.bool (!b)) s := ⟨.bl (!b), H, I, rfl, q _ _ .self rfl⟩
  unfold inB at hg2
  split at hg2
  · obtain ⟨κ, h1, h2⟩ := Option.map_eq_some_iff.mp hg2
    obtain ⟨a, w, rfl, g, l⟩ := ct_dg he hd h1
    cases ry
    refine g_notIn (by omega) I g rx fun s' I' => ?_
    rw [l.isSome, h2]
    exact ⟨.bl (!b), H, I', rfl, q _ _ .self rfl⟩
  · split at hg2
    · rename_i c
      cases hg2
      obtain ⟨h1, h2, h3⟩ := inOk_inv c
      obtain ⟨a, xs, its, rfl, rfl, _, hx, rv, hl, n1⟩ := ct_list I he ry
      refine SeqAt.notIn_listAt (fun u => eqvD (datOf X H u) _) hl (fun w hw => mem_dat (A := X.A.in1) I hd rx h1 (by show X.A.units + 1 + _ < _; omega) hx rv h2 w (by simpa using hw)) ?_
      rw [show its.toArray.any (fun u => eqvD (datOf X H u) d) = its.any (fun u => eqvD (datOf X H u) d) by simp, any_dat I d hx rv h2]
      exact fin
    · cases hg2
  · split at hg2
    · rename_i c
      cases hg2
      obtain ⟨h1, h2, h3⟩ := inOk_inv c
      obtain ⟨a, xs, its, rfl, rfl, _, hx, rv, hl, n1⟩ := ct_tuple I he ry
      refine SeqAt.notIn_tupleAt (fun u => eqvD (datOf X H u) _) hl (fun w hw => mem_dat (A := X.A.in1) I hd rx h1 (by show X.A.units + 1 + _ < _; omega) hx rv h2 w (by simpa using hw)) ?_
      rw [show its.toArray.any (fun u => eqvD (datOf X H u) d) = its.any (fun u => eqvD (datOf X H u) d) by simp, any_dat I d hx rv h2]
      exact fin
    · cases hg2
  · cases hg2
    refine op_notIn_str pins s σ H x y v u Q I rx ry ⟨_, _, hd.str, he.str, q _ _ .self rfl⟩
  · cases hg2
end

/-! ### truth -/
def truD : D → Option Bool
  | .non => some false
  | .bl b => some b
  | .int i => some (i != 0)
  | .str x => if x.length ≤ sizeLine then some ((x.length : Int) != 0) else none
  | .lst ds => some (!ds.isEmpty)
  | .tup ds => some (!ds.isEmpty)
  | .dic _ _ => none
  | .scr _ => none
  | .nst _ => none
  | .exc _ _ _ _ => none
def opdT (o : Opd) : M Bool := bnd o.start fun x => bnd (o.read x) fun d => lift (truD d)
theorem isEmpty_all {K : PySem.W.Frag} {H : Hp} {ds : List D} {xs : List V} (h : AtAll K H ds xs) : xs.isEmpty = ds.isEmpty := by
  cases ds with
  | nil => rw [h.inv0]; rfl
  | cons d ds => obtain ⟨x, r, rfl, _⟩ := h.inv; rfl
theorem tru_ct {K : PySem.W.Frag} {H : Hp} {v : V} {d : D} {b : Bool} (h : Ct K H v d) (e : truD d = some b) : TruV K v H b := by
  unfold truD at e
  split at e
  · cases e; rw [h.non]; rfl
  · cases e; rw [h.bl]; rfl
  · cases e; rw [h.int]; rfl
  · split at e
    · rename_i c
      cases e; rw [h.str]; exact ⟨c, rfl⟩
    · cases e
  · cases e
    obtain ⟨a, xs, rfl, h1, h2⟩ := h.lst
    exact .inl ⟨xs, .inl h1, by rw [isEmpty_all h2]⟩
  · cases e
    obtain ⟨a, xs, rfl, h1, h2⟩ := h.tup
    exact .inr (.inl ⟨xs, h1, by rw [isEmpty_all h2]⟩)
  · cases e
  · cases e
  · cases e
  · cases e
section
variable {X : Cx} {ec : EC} {E : L2.WX} {a b c e : Expr} {es : List Expr} {pos : Pos}
theorem dt_truth {o : Opd} (ha : DO X ec E a o) (he : ∀ whole, isTrue a X.env whole = (do let v ← whole; standAt a.pos; holding [v] (truthy v))) : DT X ec E a (opdT o) := by
  obtain ⟨t, h1, h2⟩ := ha.run
  refine DT.mk0 (pt_truth h1 he) fun σ H s Q hR hm => ?_
  refine h2 σ H s _ hR (hm.bnd.imp fun x s1 H1 _ e1 R1 S1 hk v hv => ?_)
  obtain ⟨d, cd, hk⟩ := hk.read R1.toRel0 hv
  obtain ⟨r, hr, hk⟩ := hk.lift
  exact ⟨r, tru_ct cd hr, hk H1 .refl R1.toRel0 r rfl⟩
/-! ### and, or, not, if -/
def andT (m n : M Bool) : M Bool := bnd m fun b => if b = true then n else ret false
def orT (m n : M Bool) : M Bool := bnd m fun b => if b = true then ret true else n
def notT (m : M Bool) : M Bool := bnd m fun b => ret (!b)
def ifM {α : Type} (m : M Bool) (x y : M α) : M α := bnd m fun b => if b = true then x else y
structure DW (X : Cx) (ec : EC) (E : L2.WX) (e : Expr) (m : M Bool) : Prop where
  run : ∃ t, PW X e t ∧ Comes X.K ec E RBl m t
theorem DW.dt {m : M Bool} (h : DW X ec E e m) : DT X ec E e m := by
  obtain ⟨t, h1, h2⟩ := h.run
  exact ⟨t, h1.pt, h2⟩
theorem dw_and1 {m : M Bool} (h : DT X ec E a m) : DW X ec E (.BoolOp .And [a] pos) m := by
  obtain ⟨t, h1, h2⟩ := h.run
  exact ⟨t, pw_and1 h1, h2⟩
theorem dw_or1 {m : M Bool} (h : DT X ec E a m) : DW X ec E (.BoolOp .Or [a] pos) m := by
  obtain ⟨t, h1, h2⟩ := h.run
  exact ⟨t, pw_or1 h1, h2⟩
theorem Post.retq {K : PySem.W.Frag} {σ : Sl} {H : Hp} {s : DSt} {β : Type} {k : β → DSt → Hp → Prop} {r : β} (R : Rel K σ H s) (h : Post K ec E σ H s k (ret r s)) : k r s H := h H .refl R (Sub.refl _)
theorem dw_and {m n : M Bool} (h : DT X ec E a m) (h' : DW X ec E (.BoolOp .And (b :: es) pos) n) : DW X ec E (.BoolOp .And (a :: b :: es) pos) (andT m n) := by
  obtain ⟨t, h1, h2⟩ := h.run
  obtain ⟨u, h3, h4⟩ := h'.run
  refine ⟨_, pw_and h1 h3, fun σ H s Q hR hm => ?_⟩
  refine h2 σ H s _ hR (hm.bnd.imp fun x s1 H1 _ e1 R1 S1 hk v hv => ?_)
  have hv : v = x := hv
  subst hv
  cases v with
  | true => exact h4 σ H1 s1 _ R1 hk
  | false => exact Post.retq R1 hk _ rfl
theorem dw_or {m n : M Bool} (h : DT X ec E a m) (h' : DW X ec E (.BoolOp .Or (b :: es) pos) n) : DW X ec E (.BoolOp .Or (a :: b :: es) pos) (orT m n) := by
  obtain ⟨t, h1, h2⟩ := h.run
  obtain ⟨u, h3, h4⟩ := h'.run
  refine ⟨_, pw_or h1 h3, fun σ H s Q hR hm => ?_⟩
  refine h2 σ H s _ hR (hm.bnd.imp fun x s1 H1 _ e1 R1 S1 hk v hv => ?_)
  have hv : v = x := hv
  subst hv
  cases v with
  | false => exact h4 σ H1 s1 _ R1 hk
  | true => exact Post.retq R1 hk _ rfl
theorem dt_not {m : M Bool} (h : DT X ec E a m) : DT X ec E (.UnaryOp .Not a pos) (notT m) := by
  obtain ⟨t, h1, h2⟩ := h.run
  refine ⟨_, pt_not h1, fun σ H s Q hR hm => ?_⟩
  refine h2 σ H s _ hR (hm.bnd.imp fun x s1 H1 _ e1 R1 S1 hk v hv => ?_)
  have hv : v = x := hv
  subst hv
  exact Post.retq R1 hk _ rfl
/-- and, or, not as values -/
def andV (m n : M D) : M D := bnd m fun d => bnd (lift (blOf d)) fun b => if b = true then n else ret (.bl false)
def orV (m n : M D) : M D := bnd m fun d => bnd (lift (blOf d)) fun b => if b = true then ret (.bl true) else n
def notV (m : M D) : M D := bnd m fun d => bnd (lift (blOf d)) fun b => ret (.bl (!b))
theorem Post.liftq {K : PySem.W.Frag} {σ : Sl} {H : Hp} {s : DSt} {β γ : Type} {k : β → DSt → Hp → Prop} {o : Option γ} {f : γ → M β} (h : Post K ec E σ H s k (Dt.bnd (Dt.lift o) f s)) : ∃ r, o = some r ∧ Post K ec E σ H s k (f r s) := by
  cases o with
  | none => exact h.elim
  | some r => exact ⟨r, rfl, h⟩
theorem bl_at {K : PySem.W.Frag} {H : Hp} {v : V} {d : D} {b : Bool} (h : At K H d v) (e : blOf d = some b) : v = .bl b := by
  cases d <;> cases e
  exact h
theorem dv_one {op : BoolOp} {m : M D} (h : DV X ec E a m) : DV X ec E (.BoolOp op [a] pos) m := by
  obtain ⟨t, h1, h2⟩ := h.run
  exact ⟨t, pe_one h1, h2⟩
theorem dv_and {m n : M D} (h : DV X ec E a m) (h' : DV X ec E (.BoolOp .And (b :: es) pos) n) : DV X ec E (.BoolOp .And (a :: b :: es) pos) (andV m n) := by
  obtain ⟨t, h1, h2⟩ := h.run
  obtain ⟨u, h3, h4⟩ := h'.run
  refine ⟨_, pe_and h1 h3, fun σ H s Q hR hm => ?_⟩
  refine h2 σ H s _ hR (hm.bnd.imp fun x s1 H1 _ e1 R1 S1 hk v hv => ?_)
  obtain ⟨c, hc, hk⟩ := hk.liftq
  refine ⟨c, bl_at hv hc, ?_⟩
  cases c with
  | true => exact h4 σ H1 s1 _ R1 hk
  | false => exact Post.retq R1 hk _ rfl
theorem dv_or {m n : M D} (h : DV X ec E a m) (h' : DV X ec E (.BoolOp .Or (b :: es) pos) n) : DV X ec E (.BoolOp .Or (a :: b :: es) pos) (orV m n) := by
  obtain ⟨t, h1, h2⟩ := h.run
  obtain ⟨u, h3, h4⟩ := h'.run
  refine ⟨_, pe_or h1 h3, fun σ H s Q hR hm => ?_⟩
  refine h2 σ H s _ hR (hm.bnd.imp fun x s1 H1 _ e1 R1 S1 hk v hv => ?_)
  obtain ⟨c, hc, hk⟩ := hk.liftq
  refine ⟨c, bl_at hv hc, ?_⟩
  cases c with
  | false => exact h4 σ H1 s1 _ R1 hk
  | true => exact Post.retq R1 hk _ rfl
theorem dv_not {m : M D} (h : DV X ec E a m) : DV X ec E (.UnaryOp .Not a pos) (notV m) := by
  obtain ⟨t, h1, h2⟩ := h.run
  refine ⟨_, pe_not h1, fun σ H s Q hR hm => ?_⟩
  refine h2 σ H s _ hR (hm.bnd.imp fun x s1 H1 _ e1 R1 S1 hk v hv => ?_)
  obtain ⟨c, hc, hk⟩ := hk.liftq
  exact ⟨c, bl_at hv hc, Post.retq R1 hk _ rfl⟩
/-- a test of a bool value -/
theorem dr_if {m : M Bool} {x y : M RV} (h : DT X ec E c m) (ha : DR X ec E a x) (hb : DR X ec E b y) : DR X ec E (.IfExp c a b pos) (ifM m x y) := by
  obtain ⟨t, h1, h2⟩ := h.run
  obtain ⟨u, h3, h4⟩ := ha.run
  obtain ⟨u', h5, h6⟩ := hb.run
  refine ⟨_, pe_ifExp h1 h3 h5, fun σ H s Q hR hm => ?_⟩
  refine h2 σ H s _ hR (hm.bnd.imp fun x s1 H1 _ e1 R1 S1 hk v hv => ?_)
  have hv : v = x := hv
  subst hv
  cases v with
  | true => exact h4 σ H1 s1 _ R1 (Post.imp hk fun r s' H' _ _ _ _ q g hg => q g (hg.back e1.free))
  | false => exact h6 σ H1 s1 _ R1 (Post.imp hk fun r s' H' _ _ _ _ q g hg => q g (hg.back e1.free))
def negD : D → Option D
  | .int i => some (.int (-i))
  | _ => none
theorem dv_neg {o : Opd} (h : DO X ec E a o) : DV X ec E (.UnaryOp .USub a pos) (bnd o.start fun x => bnd (o.read x) fun d => lift (negD d)) := by
  obtain ⟨t, h1, h2⟩ := h.run
  refine DV.mk0 (pe_un un_neg h1) fun σ H s Q hR hm => ?_
  refine h2 σ H s _ hR (hm.bnd.imp fun x s1 H1 _ e1 R1 S1 hk v hv => ?_)
  obtain ⟨d, cd, hk⟩ := hk.read R1.toRel0 hv
  obtain ⟨r, hr, hk⟩ := hk.lift
  unfold negD at hr
  split at hr
  · cases hr
    exact ⟨_, cd.int, hk H1 .refl R1.toRel0 _ rfl⟩
  · cases hr

/-! ### argument lists, displays -/
theorem da_nil : DA X ec E [] (ret []) := DA.mk0 pa_nil fun σ H s Q hR hm => hm.ret H .refl hR.toRel0 [] .nil
def consM (m : M D) (ms : M (List D)) : M (List D) := bnd m fun d => bnd ms fun ds => ret (d :: ds)
theorem da_cons {m : M D} {ms : M (List D)} (h : DV X ec E e m) (h' : DA X ec E es ms) (hs : starEach (e :: es) X.env = (false, eval e X.env) :: starEach es X.env) : DA X ec E (e :: es) (consM m ms) := by
  obtain ⟨t, h1, h2⟩ := h.run
  obtain ⟨u, h3, h4⟩ := h'.run
  refine ⟨_, pa_cons h1 h3 hs, fun σ H s Q hR hm => ?_⟩
  refine h2 σ H s _ hR (hm.bnd.imp fun x s1 H1 _ e1 R1 S1 hk v hv => ?_)
  refine h4 σ H1 s1 _ R1 (hk.bnd.imp fun xs s2 H2 _ e2 R2 S2 hk2 vs hvs => ?_)
  exact Post.retq R2 hk2 _ (AtAll.cons (At.ext e2.ext _ _ hv) hvs)
/-- a tuple, a list of written items: at most a thousand -/
def tupM (ms : M (List D)) : M D := bnd ms fun ds => if ds.length ≤ 1000 then ret (.tup ds) else fail
def lstM (ms : M (List D)) : M RV := bnd ms fun ds => if ds.length ≤ 1000 then ret (.own (.lst ds)) else fail
theorem k1000 {n : Nat} (h : n ≤ 1000) : n ≤ sizeLine := by rw [sizeLine_eq]; omega
def tTupF (t : TA) : TE := fun σ H Q => t σ H fun xs H1 => xs.length ≤ sizeLine ∧ ∀ p, H1 p = none → LaysT Q H1 p xs
theorem pe_tupF {X : Cx} {es : List Expr} {t : TA} {x1} {pos : Pos} (h : PA X es t) : PE X (.Tuple es x1 pos) (tTupF t) := by
  refine ⟨fun pins s σ H Q I hq => ?_⟩
  refine wpAny_Tuple_spliced (thn (h.run pos pins s σ H _ I hq) fun us s1 ⟨xs, H1, I1, r, z, q⟩ => ⟨by rw [← r.length]; exact z, ?_⟩)
  exact lays_inv (s := s1) (tk := s1.toks) I1 r z (q _ (I1.hok.fresh (Nat.le_refl _)))
theorem dv_tup {ms : M (List D)} {k : Nat} (h : DA X ec E es ms) : DV X ec E (.Tuple es k pos) (tupM ms) := by
  obtain ⟨t, h1, h2⟩ := h.run
  refine DV.mk0 (pe_tupF h1) fun σ H s Q hR hm => ?_
  refine h2 σ H s _ hR (hm.bnd.imp fun ds s1 H1 _ e1 R1 S1 hk vs hvs => ?_)
  by_cases c : ds.length ≤ 1000
  · rw [if_pos c] at hk
    refine ⟨by rw [hvs.len]; exact k1000 c, fun p hp => ?_⟩
    exact lays_at hp hvs fun o ho => hk.ret _ (.new hp) (R1.toRel0.evo (A := noA) (.new hp) fun _ _ z => z) _ ho
  · rw [if_neg c] at hk
    exact hk.elim
theorem dr_lst {ms : M (List D)} (h : DA X ec E es ms) : DR X ec E (.List es pos) (lstM ms) := by
  obtain ⟨t, h1, h2⟩ := h.run
  refine DR.mk0 (pe_lst h1) fun σ H s Q hR hm => ?_
  refine h2 σ H s _ hR (hm.bnd.imp fun ds s1 H1 _ e1 R1 S1 hk vs hvs => ?_)
  by_cases c : ds.length ≤ 1000
  · rw [if_pos c] at hk
    refine ⟨by rw [hvs.len]; exact k1000 c, fun p hp => ?_⟩
    exact hk.ret _ (.new hp) (R1.toRel0.evo (A := noA) (.new hp) fun _ _ z => z) _ ((new_own_lst hp hvs).back (r := .own (.lst ds)) e1.free)
  · rw [if_neg c] at hk
    exact hk.elim
/-- {}: its keys plain, or tuples -/
theorem dr_dic0 : DR X ec E (.Dict [] [] pos) (ret (.own (.dic false []))) :=
  DR.mk0 pe_dnewK fun σ H s Q hR hm => fun p hp => hm.ret _ (.new hp) (hR.toRel0.evo (A := noA) (.new hp) fun _ _ z => z) _ ⟨p, rfl, hp, [], upd_same, .nil⟩
theorem dr_dic0T : DR X ec E (.Dict [] [] pos) (ret (.own (.dic true []))) :=
  DR.mk0 pe_dnewT fun σ H s Q hR hm => fun p hp => hm.ret _ (.new hp) (hR.toRel0.evo (A := noA) (.new hp) fun _ _ z => z) _ ⟨p, rfl, hp, [], upd_same, .nil⟩

/-! ### operand lists -/
theorem bnd_bnd {α β γ : Type} (m : M α) (f : α → M β) (g : β → M γ) : bnd (bnd m f) g = bnd m fun a => bnd (f a) g := by
  funext s
  unfold bnd
  cases m s with
  | none => rfl
  | some p =>
    obtain ⟨r, s1⟩ := p
    cases r <;> rfl
def starts : List Opd → M (List D)
  | [] => ret []
  | o :: os => bnd o.start fun d => bnd (starts os) fun ds => ret (d :: ds)
def reads : List Opd → List D → M (List D)
  | o :: os, d :: ds => bnd (o.read d) fun c => bnd (reads os ds) fun cs => ret (c :: cs)
  | _, _ => ret []
def RPends (K : PySem.W.Frag) : List Opd → Sl → Hp → Hp → List V → List D → Prop
  | [], _, _, _, vs, ds => vs = [] ∧ ds = []
  | o :: os, σ, H, H', vs, ds => ∃ v r d ds', vs = v :: r ∧ ds = d :: ds' ∧ RPend K o σ H H' v d ∧ RPends K os σ H H' r ds'
structure DOs (X : Cx) (ec : EC) (E : L2.WX) (es : List Expr) (os : List Opd) : Prop where
  run : ∃ t, PA X es t ∧ Comes X.K ec E (RPends X.K os) (starts os) t
theorem RPend.any {K : PySem.W.Frag} {o : Opd} {σ : Sl} {H0 H H1 : Hp} {v : V} {d : D} (h : RPend K o σ H H1 v d) : RPend K o σ H0 H1 v d := by
  cases o with
  | v m => exact h
  | slot i => exact h
theorem RPends.any {K : PySem.W.Frag} : ∀ {os : List Opd} {σ : Sl} {H0 H H1 : Hp} {vs : List V} {ds : List D}, RPends K os σ H H1 vs ds → RPends K os σ H0 H1 vs ds
  | [], _, _, _, _, _, _, h => h
  | o :: os, _, _, _, _, _, _, h => by
    obtain ⟨v, r, d, ds', e1, e2, h1, h2⟩ := h
    exact ⟨v, r, d, ds', e1, e2, h1.any, h2.any⟩
theorem dos_nil : DOs X ec E [] [] := by
  refine ⟨_, pa_nil, fun σ H s Q hR hm => ?_⟩
  exact Post.retq hR hm [] ⟨rfl, rfl⟩
theorem dos_cons {o : Opd} {os : List Opd} (h : DO X ec E e o) (h' : DOs X ec E es os) (hs : starEach (e :: es) X.env = (false, eval e X.env) :: starEach es X.env) : DOs X ec E (e :: es) (o :: os) := by
  obtain ⟨t, h1, h2⟩ := h.run
  obtain ⟨u, h3, h4⟩ := h'.run
  refine ⟨_, pa_cons h1 h3 hs, fun σ H s Q hR hm => ?_⟩
  refine h2 σ H s _ hR (hm.bnd.imp fun x s1 H1 _ e1 R1 S1 hk v hv => ?_)
  refine h4 σ H1 s1 _ R1 (hk.bnd.imp fun xs s2 H2 _ e2 R2 S2 hk2 vs hvs => ?_)
  exact Post.retq R2 hk2 _ ⟨v, vs, x, xs, rfl, rfl, (hv.ext e2.ext).any, hvs.any⟩
theorem Post0.reads {K : PySem.W.Frag} {σ : Sl} {H0 H : Hp} {s : DSt} {β : Type} : ∀ {os : List Opd} {ds : List D} {vs : List V} {f : List D → M β} {k : β → DSt → Hp → Prop}, Post0 K ec E σ H s k (Dt.bnd (Dt.reads os ds) f s) → Rel0 K σ H s → RPends K os σ H0 H vs ds →
    ∃ cs, CtAll K H vs cs ∧ Post0 K ec E σ H s k (f cs s)
  | [], ds, vs, f, k, h, R, p => by
    obtain ⟨rfl, rfl⟩ := p
    exact ⟨[], trivial, h⟩
  | o :: os, ds, vs, f, k, h, R, p => by
    obtain ⟨v, r, d, ds', rfl, rfl, p1, p2⟩ := p
    have e : Dt.bnd (Dt.reads (o :: os) (d :: ds')) f = Dt.bnd (o.read d) (fun c => Dt.bnd (Dt.reads os ds') fun cs => f (c :: cs)) := by
      show Dt.bnd (Dt.bnd (o.read d) fun c => Dt.bnd (Dt.reads os ds') fun cs => Dt.ret (c :: cs)) f = _
      rw [bnd_bnd]
      congr 1
      funext c
      rw [bnd_bnd]
      rfl
    rw [e] at h
    obtain ⟨c, cd, h⟩ := h.read R p1
    obtain ⟨cs, ccs, h⟩ := Post0.reads h R p2
    exact ⟨c :: cs, ⟨cd, ccs⟩, h⟩
/-- a call of a built-in by contents -/
def rCn (K : PySem.W.Frag) (g : List D → Option RV) : List V → Hp → VK → Prop := fun vs H Q => ∃ ds r, CtAll K H vs ds ∧ g ds = some r ∧ Bounded K H ∧ ∀ v H', Evo noA H H' → RvNew K H H' v r → Q v H'
def rVn (K : PySem.W.Frag) (g : List D → Option D) : List V → Hp → VK → Prop := fun vs H Q => ∃ ds r, CtAll K H vs ds ∧ g ds = some r ∧ Bounded K H ∧ ∀ v H', Evo noA H H' → At K H' r v → Q v H'
def callN (g : List D → Option RV) (os : List Opd) : M RV := bnd (starts os) fun xs => bnd (reads os xs) fun ds => lift (g ds)
def callV (g : List D → Option D) (os : List Opd) : M D := bnd (starts os) fun xs => bnd (reads os xs) fun ds => lift (g ds)
theorem comes_cn {g : List D → Option RV} {os : List Opd} {t : TA} (h : Comes X.K ec E (RPends X.K os) (starts os) t) : Comes0 X.K ec E (RNew X.K) (callN g os) (fun σ H Q => t σ H fun vs H1 => rCn X.K g vs H1 Q) := fun σ H s Q hR hm => by
  refine h σ H s _ hR (hm.bnd.imp fun xs s1 H1 _ e1 R1 S1 hk vs hvs => ?_)
  obtain ⟨cs, cd, hk⟩ := hk.reads R1.toRel0 hvs
  obtain ⟨r, hr, hk⟩ := hk.lift
  exact ⟨cs, r, cd, hr, R1.bnd, fun v H' ev hv => hk H' (ev.mono fun _ z => z.elim) (R1.toRel0.evo0 ev) v (hv.back e1.free)⟩
theorem comes_vn {g : List D → Option D} {os : List Opd} {t : TA} (h : Comes X.K ec E (RPends X.K os) (starts os) t) : Comes0 X.K ec E (RVal X.K) (callV g os) (fun σ H Q => t σ H fun vs H1 => rVn X.K g vs H1 Q) := fun σ H s Q hR hm => by
  refine h σ H s _ hR (hm.bnd.imp fun xs s1 H1 _ e1 R1 S1 hk vs hvs => ?_)
  obtain ⟨cs, cd, hk⟩ := hk.reads R1.toRel0 hvs
  obtain ⟨r, hr, hk⟩ := hk.lift
  exact ⟨cs, r, cd, hr, R1.bnd, fun v H' ev hv => hk H' (ev.mono fun _ z => z.elim) (R1.toRel0.evo0 ev) v hv⟩
variable {x : Str} {p : Pos} {id T : String}
theorem dr_callB {g : List D → Option RV} {os : List Opd} (hc : CallR X (.builtin id) (rCn X.K g)) (hg : Gl X x) (hm : X.mg x = none) (hv : bootBuiltins x = some (.builtin id)) (ha : DOs X ec E (e :: es) os) (hn : x ≠ "__name__") (hdb : (x == ("__debug__" : Str)) = false)
    (he : starEach (e :: es) X.env = (false, eval e X.env) :: starEach es X.env) (hpl : (backTo pos (starEach es X.env)).any (·.1) = false) : DR X ec E (.Call (.Name x p) (e :: es) [] pos) (callN g os) := by
  obtain ⟨t, h1, h2⟩ := ha.run
  exact DR.mk0 (pe_callB hc hg hm hv h1 hn hdb he hpl) (comes_cn h2)
theorem dr_callTy {g : List D → Option RV} {os : List Opd} (hc : CallR X (.type T) (rCn X.K g)) (hg : Gl X x) (hm : X.mg x = none) (hv : bootBuiltins x = some (.type T)) (ha : DOs X ec E (e :: es) os) (hn : x ≠ "__name__") (hdb : (x == ("__debug__" : Str)) = false)
    (he : starEach (e :: es) X.env = (false, eval e X.env) :: starEach es X.env) (hpl : (backTo pos (starEach es X.env)).any (·.1) = false) : DR X ec E (.Call (.Name x p) (e :: es) [] pos) (callN g os) := by
  obtain ⟨t, h1, h2⟩ := ha.run
  exact DR.mk0 (pe_callTy hc hg hm hv h1 hn hdb he hpl) (comes_cn h2)
theorem dv_callB {g : List D → Option D} {os : List Opd} (hc : CallR X (.builtin id) (rVn X.K g)) (hg : Gl X x) (hm : X.mg x = none) (hv : bootBuiltins x = some (.builtin id)) (ha : DOs X ec E (e :: es) os) (hn : x ≠ "__name__") (hdb : (x == ("__debug__" : Str)) = false)
    (he : starEach (e :: es) X.env = (false, eval e X.env) :: starEach es X.env) (hpl : (backTo pos (starEach es X.env)).any (·.1) = false) : DV X ec E (.Call (.Name x p) (e :: es) [] pos) (callV g os) := by
  obtain ⟨t, h1, h2⟩ := ha.run
  exact DV.mk0 (pe_callB hc hg hm hv h1 hn hdb he hpl) (comes_vn h2)
theorem dv_callTy {g : List D → Option D} {os : List Opd} (hc : CallR X (.type T) (rVn X.K g)) (hg : Gl X x) (hm : X.mg x = none) (hv : bootBuiltins x = some (.type T)) (ha : DOs X ec E (e :: es) os) (hn : x ≠ "__name__") (hdb : (x == ("__debug__" : Str)) = false)
    (he : starEach (e :: es) X.env = (false, eval e X.env) :: starEach es X.env) (hpl : (backTo pos (starEach es X.env)).any (·.1) = false) : DV X ec E (.Call (.Name x p) (e :: es) [] pos) (callV g os) := by
  obtain ⟨t, h1, h2⟩ := ha.run
  exact DV.mk0 (pe_callTy hc hg hm hv h1 hn hdb he hpl) (comes_vn h2)
end
end Dt

end
section
set_option maxRecDepth 100000
set_option autoImplicit false
namespace Dt
open PySem PySem.Spec PyProof.Rows L2

/-! ### defs of one's own: what they promise, how they are called -/
abbrev wx (E : XK) : L2.WX := fun cls d _ H => E cls d H
/-- a def is worth a program over its arguments' slots -/
def spD (K : PySem.W.Frag) (ec : EC) (f : M RV) : Sp := fun vs H Q E => ∃ rs : DSt, Rel K (vs.map some) H rs ∧ Post0 K ec (wx E) (vs.map some) H rs (fun r s' H' => ∀ v, RvNew K H H' v r → Q v H') (f rs)

inductive Arg where
  | v (m : M D) | slot (i : Nat) | new (m : M RV)
def Arg.start : Arg → M RV
  | .v m => bnd m fun d => ret (.val d)
  | .slot i => bnd (hasSlot i) fun _ => ret (.val .non)
  | .new m => m
def startsA : List Arg → M (List RV)
  | [] => ret []
  | a :: as => bnd a.start fun r => bnd (startsA as) fun rs => ret (r :: rs)
def slotsOf : List Arg → List Nat
  | [] => []
  | .slot i :: as => i :: slotsOf as
  | _ :: as => slotsOf as
def argOf (s : DSt) : Arg → RV → Option RV
  | .slot i, _ => (s[i]?).join
  | _, r => some r
def argsOf (s : DSt) : List Arg → List RV → DSt
  | a :: as, r :: rs => argOf s a r :: argsOf s as rs
  | _, _ => []
def back : List Arg → DSt → DSt → DSt
  | .slot i :: as, x :: xs, s => back as xs (s.set i x)
  | _ :: as, _ :: xs, s => back as xs s
  | _, _, s => s
def callF (f : M RV) (as : List Arg) : M RV := bnd (startsA as) fun rs s => match f (argsOf s as rs) with
  | none => none
  | some (q, xs) => some (q, back as xs s)

def isNew : Arg → Bool
  | .new _ => true
  | _ => false
def RArg (K : PySem.W.Frag) (σ : Sl) (H H' : Hp) : Arg → V → RV → Prop
  | .v _, v, r => ∃ d, r = .val d ∧ At K H' d v
  | .slot i, v, _ => σ[i]? = some (some v)
  | .new _, v, r => RvNew K H H' v r
structure RArgs (K : PySem.W.Frag) (as : List Arg) (σ : Sl) (H H' : Hp) (vs : List V) (rs : List RV) : Prop where
  lv : vs.length = as.length
  lr : rs.length = as.length
  at_ : ∀ (j : Nat) (a : Arg) (v : V) (r : RV), as[j]? = some a → vs[j]? = some v → rs[j]? = some r → RArg K σ H H' a v r
  sep : ∀ (i j : Nat) (a b : Arg) (r q : RV) (x : Addr), as[i]? = some a → as[j]? = some b → isNew a = true → isNew b = true → rs[i]? = some r → rs[j]? = some q → r.isOwn = true → q.isOwn = true → vs[i]? = some (.ref x) → vs[j]? = some (.ref x) → i = j
structure DAs (X : Cx) (ec : EC) (E : L2.WX) (es : List Expr) (as : List Arg) : Prop where
  run : ∃ t, PA X es t ∧ Comes X.K ec E (RArgs X.K as) (startsA as) t
structure DG1 (X : Cx) (ec : EC) (E : L2.WX) (e : Expr) (a : Arg) : Prop where
  run : ∃ t, PE X e t ∧ Comes X.K ec E (fun σ H H' v r => RArg X.K σ H H' a v r) a.start t
section
variable {X : Cx} {ec : EC} {E : L2.WX} {a b c e : Expr} {es : List Expr} {pos : Pos}
theorem dg_v {m : M D} (h : DV X ec E e m) : DG1 X ec E e (.v m) := by
  obtain ⟨t, h1, h2⟩ := h.run
  refine ⟨t, h1, fun σ H s Q hR hm => ?_⟩
  exact h2 σ H s _ hR (hm.bnd.imp fun d s1 H1 _ e1 R1 S1 hk v hv => Post.retq R1 hk v ⟨d, rfl, hv⟩)
theorem dg_slot {i : Nat} (h : PE X e (tVar i)) : DG1 X ec E e (.slot i) := by
  obtain ⟨t, h1, h2⟩ := (do_slot (ec := ec) (E := E) h).run
  refine ⟨t, h1, fun σ H s Q hR hm => ?_⟩
  exact h2 σ H s _ hR (Post.imp (Post.bnd (m := hasSlot i) hm) fun d s1 H1 _ e1 R1 S1 hk v hv => Post.retq R1 hk v hv)
theorem dg_new {m : M RV} (h : DR X ec E e m) : DG1 X ec E e (.new m) := by
  obtain ⟨t, h1, h2⟩ := h.run
  exact ⟨t, h1, h2⟩
theorem RvAt.later {K : PySem.W.Frag} {H H' : Hp} {v : V} {r : RV} (h : RvAt K H v r) (e : Ext H H') (k : r.isOwn = true → ∀ x o, v = .ref x → H x = some o → H' x = some o) : RvAt K H' v r := by
  cases r with
  | val d => exact At.ext e d v h
  | own d =>
    obtain ⟨x, rfl, q⟩ := h
    exact ⟨x, rfl, q.ext e fun o ho => k rfl x o rfl ho⟩
theorem RvNew.at_ {K : PySem.W.Frag} {H H' : Hp} {v : V} {r : RV} (h : RvNew K H H' v r) : RvAt K H' v r := by
  cases r with
  | val d => exact h
  | own d => obtain ⟨a, e, _, q⟩ := h; exact ⟨a, e, q⟩
theorem RvNew.fresh {K : PySem.W.Frag} {H H' : Hp} {x : Addr} {r : RV} (h : RvNew K H H' (.ref x) r) (o : r.isOwn = true) : H x = none ∧ ∃ u, H' x = some u := by
  cases r with
  | val d => cases o
  | own d =>
    obtain ⟨a, e, n, q⟩ := h
    cases e
    obtain ⟨u, hu, _⟩ := q.mut
    exact ⟨n, u, hu⟩
theorem RvNew.later {K : PySem.W.Frag} {H H1 H2 : Hp} {v : V} {r : RV} (h : RvNew K H H1 v r) (e : Ext H1 H2) (k : r.isOwn = true → ∀ x o, v = .ref x → H1 x = some o → H2 x = some o) : RvNew K H H2 v r := by
  cases r with
  | val d => exact At.ext e d v h
  | own d =>
    obtain ⟨x, rfl, n, q⟩ := h
    exact ⟨x, rfl, n, q.ext e fun o ho => k rfl x o rfl ho⟩
theorem das_nil : DAs X ec E [] [] := by
  refine ⟨_, pa_nil, fun σ H s Q hR hm => ?_⟩
  exact Post.retq hR hm [] ⟨rfl, rfl, fun j a v r h => by simp at h, fun i j a b r q x h => by simp at h⟩
theorem das_cons {a : Arg} {as : List Arg} (h : DG1 X ec E e a) (h' : DAs X ec E es as) (hs : starEach (e :: es) X.env = (false, eval e X.env) :: starEach es X.env) : DAs X ec E (e :: es) (a :: as) := by
  obtain ⟨t, h1, h2⟩ := h.run
  obtain ⟨u, h3, h4⟩ := h'.run
  refine ⟨_, pa_cons h1 h3 hs, fun σ H s Q hR hm => ?_⟩
  refine h2 σ H s _ hR (hm.bnd.imp fun r s1 H1 _ e1 R1 S1 hk v hv => ?_)
  refine h4 σ H1 s1 _ R1 (hk.bnd.imp fun rs s2 H2 _ e2 R2 S2 hk2 vs hvs => ?_)
  refine Post.retq R2 hk2 _ ⟨by simp [hvs.lv], by simp [hvs.lr], fun j b w q hb hw hq => ?_, fun i j b b' q q' x hb hb' nb nb' hq hq' oq oq' hx hx' => ?_⟩
  · cases j with
    | zero =>
      simp only [List.getElem?_cons_zero, Option.some.injEq] at hb hw hq
      subst hb hw hq
      cases a with
      | v m =>
        obtain ⟨d, e, q⟩ := hv
        exact ⟨d, e, At.ext e2.ext _ _ q⟩
      | slot i => exact hv
      | new m =>
        have hv : RvNew X.K H H1 v r := hv
        refine hv.later e2.ext fun o x u ex hu => e2.keep x u hu fun z => ?_
        subst ex
        obtain ⟨n, _⟩ := hv.fresh o
        exact own_new hR.toRel0 n (S1.owns z)
    | succ j =>
      simp only [List.getElem?_cons_succ] at hb hw hq
      have z := hvs.at_ j b w q hb hw hq
      cases b with
      | v m => exact z
      | slot i => exact z
      | new m => exact RvNew.back z e1.free
  · -- two new ones
    cases i with
    | zero =>
      cases j with
      | zero => rfl
      | succ j =>
        exfalso
        simp only [List.getElem?_cons_zero, Option.some.injEq, List.getElem?_cons_succ] at hb hb' hq hq' hx hx'
        subst hb hq hx
        have z := hvs.at_ j b' _ q' hb' hx' hq'
        cases b' with
        | v m => cases nb'
        | slot i => cases nb'
        | new m =>
          obtain ⟨n, _⟩ := RvNew.fresh (show RvNew X.K H1 H2 (.ref x) q' from z) oq'
          cases a with
          | v m => cases nb
          | slot i => cases nb
          | new m =>
            obtain ⟨_, u, hu⟩ := RvNew.fresh (show RvNew X.K H H1 (.ref x) r from hv) oq
            rw [n] at hu
            cases hu
    | succ i =>
      cases j with
      | zero =>
        exfalso
        simp only [List.getElem?_cons_zero, Option.some.injEq, List.getElem?_cons_succ] at hb hb' hq hq' hx hx'
        subst hb' hq' hx'
        have z := hvs.at_ i b _ q hb hx hq
        cases b with
        | v m => cases nb
        | slot i => cases nb
        | new m =>
          obtain ⟨n, _⟩ := RvNew.fresh (show RvNew X.K H1 H2 (.ref x) q from z) oq
          cases a with
          | v m => cases nb'
          | slot i => cases nb'
          | new m =>
            obtain ⟨_, u, hu⟩ := RvNew.fresh (show RvNew X.K H H1 (.ref x) r from hv) oq'
            rw [n] at hu
            cases hu
      | succ j =>
        simp only [List.getElem?_cons_succ] at hb hb' hq hq' hx hx'
        rw [hvs.sep i j b b' q q' x hb hb' nb nb' hq hq' oq oq' hx hx']

theorem argsOf_len (s : DSt) : ∀ (as : List Arg) (rs : List RV), rs.length = as.length → (argsOf s as rs).length = as.length
  | [], [], _ => rfl
  | a :: as, r :: rs, h => by
    simp only [List.length_cons, Nat.add_right_cancel_iff] at h
    simp only [argsOf, List.length_cons, argsOf_len s as rs h]
  | [], _ :: _, h => by simp at h
  | _ :: _, [], h => by simp at h
theorem argsOf_get (s : DSt) : ∀ (as : List Arg) (rs : List RV) (j : Nat) (r : Option RV), (argsOf s as rs)[j]? = some r → ∃ a q, as[j]? = some a ∧ rs[j]? = some q ∧ r = argOf s a q
  | [], _, j, r, h => by simp [argsOf] at h
  | a :: as, [], j, r, h => by simp [argsOf] at h
  | a :: as, q :: rs, 0, r, h => by simp [argsOf] at h; exact ⟨a, q, rfl, rfl, h.symm⟩
  | a :: as, q :: rs, j + 1, r, h => by
    simp only [argsOf, List.getElem?_cons_succ] at h
    obtain ⟨b, p, h1, h2, h3⟩ := argsOf_get s as rs j r h
    exact ⟨b, p, by simpa using h1, by simpa using h2, h3⟩
theorem argsOf_get' (s : DSt) : ∀ (as : List Arg) (rs : List RV) (j : Nat) (a : Arg) (q : RV), as[j]? = some a → rs[j]? = some q → (argsOf s as rs)[j]? = some (argOf s a q)
  | [], _, j, a, q, h, _ => by simp at h
  | a :: as, [], j, b, q, _, h => by simp at h
  | a :: as, r :: rs, 0, b, q, h, h' => by simp at h h'; subst h h'; simp [argsOf]
  | a :: as, r :: rs, j + 1, b, q, h, h' => by
    simp only [argsOf, List.getElem?_cons_succ] at h h' ⊢
    exact argsOf_get' s as rs j b q h h'
theorem slots_mem : ∀ (as : List Arg) (j i : Nat), as[j]? = some (.slot i) → i ∈ slotsOf as
  | [], j, i, h => by simp at h
  | a :: as, 0, i, h => by simp at h; subst h; simp [slotsOf]
  | a :: as, j + 1, i, h => by
    have := slots_mem as j i (by simpa using h)
    cases a <;> simp [slotsOf, this]
theorem slots_inj : ∀ (as : List Arg) (j k i : Nat), (slotsOf as).Nodup → as[j]? = some (.slot i) → as[k]? = some (.slot i) → j = k
  | [], j, k, i, _, h, _ => by simp at h
  | a :: as, 0, 0, i, _, _, _ => rfl
  | a :: as, 0, k + 1, i, nd, h, h' => by
    simp at h; subst h
    have := slots_mem as k i (by simpa using h')
    simp [slotsOf, this] at nd
  | a :: as, j + 1, 0, i, nd, h, h' => by
    simp at h'; subst h'
    have := slots_mem as j i (by simpa using h)
    simp [slotsOf, this] at nd
  | a :: as, j + 1, k + 1, i, nd, h, h' => by
    have nd' : (slotsOf as).Nodup := by
      cases a with
      | slot m => simp only [slotsOf, List.nodup_cons] at nd; exact nd.2
      | v m => exact nd
      | new m => exact nd
    rw [slots_inj as j k i nd' (by simpa using h) (by simpa using h')]
theorem back_len : ∀ (as : List Arg) (xs s : DSt), (back as xs s).length = s.length
  | [], xs, s => by simp [back]
  | .slot i :: as, [], s => by simp [back]
  | .v m :: as, [], s => by simp [back]
  | .new m :: as, [], s => by simp [back]
  | .slot i :: as, x :: xs, s => by simp [back, back_len as xs]
  | .v m :: as, x :: xs, s => by simp [back, back_len as xs]
  | .new m :: as, x :: xs, s => by simp [back, back_len as xs]
/-- the slots behind the call: those handed over have what came back -/
theorem back_get : ∀ (as : List Arg) (xs s : DSt) (i : Nat), (slotsOf as).Nodup → xs.length = as.length → i < s.length →
    (∃ (j : Nat) (x : Option RV), as[j]? = some (Arg.slot i) ∧ xs[j]? = some x ∧ (back as xs s)[i]? = some x) ∨ ((∀ (j : Nat), as[j]? ≠ some (Arg.slot i)) ∧ (back as xs s)[i]? = s[i]?)
  | [], xs, s, i, _, _, _ => .inr ⟨fun j h => by simp at h, by simp [back]⟩
  | a :: as, [], s, i, _, h, _ => by simp at h
  | .slot k :: as, x :: xs, s, i, nd, hl, hi => by
    simp only [slotsOf, List.nodup_cons] at nd
    have hl' : xs.length = as.length := by simpa using hl
    rcases back_get as xs (s.set k x) i nd.2 hl' (by rw [List.length_set]; exact hi) with ⟨j, y, h1, h2, h3⟩ | ⟨h1, h2⟩
    · exact .inl ⟨j + 1, y, by simpa using h1, by simpa using h2, by simpa [back] using h3⟩
    · by_cases e : k = i
      · subst e
        refine .inl ⟨0, x, rfl, rfl, ?_⟩
        show (back as xs (s.set k x))[k]? = some x
        rw [h2, List.getElem?_set_self hi]
      · refine .inr ⟨fun j => ?_, ?_⟩
        · cases j with
          | zero => simp; exact e
          | succ j => simpa using h1 j
        · show (back as xs (s.set k x))[i]? = s[i]?
          rw [h2, List.getElem?_set_ne e]
  | .v m :: as, x :: xs, s, i, nd, hl, hi => by
    rcases back_get as xs s i nd (by simpa using hl) hi with ⟨j, y, h1, h2, h3⟩ | ⟨h1, h2⟩
    · exact .inl ⟨j + 1, y, by simpa using h1, by simpa using h2, by simpa [back] using h3⟩
    · refine .inr ⟨fun j => ?_, by simpa [back] using h2⟩
      cases j with
      | zero => simp
      | succ j => simpa using h1 j
  | .new m :: as, x :: xs, s, i, nd, hl, hi => by
    rcases back_get as xs s i nd (by simpa using hl) hi with ⟨j, y, h1, h2, h3⟩ | ⟨h1, h2⟩
    · exact .inl ⟨j + 1, y, by simpa using h1, by simpa using h2, by simpa [back] using h3⟩
    · refine .inr ⟨fun j => ?_, by simpa [back] using h2⟩
      cases j with
      | zero => simp
      | succ j => simpa using h1 j

/-- the callee's state at the call, and what its end is worth here -/
theorem call_state {as : List Arg} {σ : Sl} {H H2 : Hp} {s s2 : DSt} {vs : List V} {rs : List RV} (nd : (slotsOf as).Nodup) (hR : Rel X.K σ H s) (e2 : Evo (OwnsA σ s) H H2) (R2 : Rel X.K σ H2 s2) (S2 : Sub s s2) (A : RArgs X.K as σ H H2 vs rs) :
    Rel X.K (vs.map some) H2 (argsOf s2 as rs) ∧
    (∀ x, OwnsA (vs.map some) (argsOf s2 as rs) x → (OwnsA σ s2 x ∧ ∃ (j i : Nat), as[j]? = some (Arg.slot i) ∧ vs[j]? = some (V.ref x)) ∨ H x = none) ∧
    ∀ (xs : DSt) (H' : Hp), Evo (OwnsA (vs.map some) (argsOf s2 as rs)) H2 H' → Rel0 X.K (vs.map some) H' xs → Sub (argsOf s2 as rs) xs →
      Evo (OwnsA σ s2) H2 H' ∨ True → Evo (OwnsA σ s) H H' ∧ Rel0 X.K σ H' (back as xs s2) ∧ Sub s2 (back as xs s2) := by
  have slotv : ∀ (j i : Nat) (v : V), as[j]? = some (.slot i) → vs[j]? = some v → σ[i]? = some (some v) := fun j i v h1 h2 => by
    obtain ⟨q, hq⟩ : ∃ q, rs[j]? = some q := by
      have hj := (List.getElem?_eq_some_iff.mp h1).1
      exact ⟨rs[j]'(by rw [A.lr]; exact hj), List.getElem?_eq_getElem _⟩
    exact A.at_ j _ v q h1 h2 hq
  have hvs : ∀ (j : Nat) (v : V), (vs.map some)[j]? = some (some v) → vs[j]? = some v := fun j v h => by
    rw [List.getElem?_map] at h
    cases e : vs[j]? with
    | none => rw [e] at h; cases h
    | some w => rw [e] at h; cases h; rfl
  have own : ∀ (j : Nat) (r : RV) (x : Addr), (argsOf s2 as rs)[j]? = some (some r) → r.isOwn = true → vs[j]? = some (.ref x) →
      (∃ i : Nat, as[j]? = some (Arg.slot i) ∧ s2[i]? = some (some r) ∧ σ[i]? = some (some (.ref x))) ∨ (∃ m, as[j]? = some (Arg.new m) ∧ rs[j]? = some r ∧ H x = none) := fun j r x h1 o h2 => by
    obtain ⟨a, q, ha, hq, e⟩ := argsOf_get s2 as rs j _ h1
    have z := A.at_ j a _ q ha h2 hq
    cases a with
    | v m =>
      obtain ⟨d, rfl, _⟩ := z
      have e : some r = some (RV.val d) := e
      cases e
      cases o
    | slot i =>
      refine .inl ⟨i, ha, ?_, z⟩
      have e : some r = (s2[i]?).join := e
      cases w : s2[i]? with
      | none => rw [w] at e; cases e
      | some w' => rw [w] at e; exact congrArg some e.symm
    | new m =>
      have e : some r = some q := e
      cases e
      exact .inr ⟨m, ha, hq, (RvNew.fresh (show RvNew X.K H H2 (.ref x) r from z) o).1⟩
  have cls : ∀ x, OwnsA (vs.map some) (argsOf s2 as rs) x → (OwnsA σ s2 x ∧ ∃ (j i : Nat), as[j]? = some (Arg.slot i) ∧ vs[j]? = some (V.ref x)) ∨ H x = none := fun x ⟨j, r, h1, o, h2⟩ => by
    rcases own j r x h1 o (hvs _ _ h2) with ⟨i, a1, a2, a3⟩ | ⟨m, _, _, n⟩
    · exact .inl ⟨⟨i, r, a2, o, a3⟩, j, i, a1, hvs _ _ h2⟩
    · exact .inr n
  have R : Rel X.K (vs.map some) H2 (argsOf s2 as rs) := by
    refine ⟨⟨by rw [argsOf_len s2 as rs A.lr, List.length_map, A.lv], fun j r h => ?_, fun i j r q x h1 h2 o1 o2 h3 h4 => ?_⟩, R2.bnd⟩
    · obtain ⟨a, q, ha, hq, e⟩ := argsOf_get s2 as rs j _ h
      obtain ⟨v, hv⟩ : ∃ v, vs[j]? = some v := by
        have hj := (List.getElem?_eq_some_iff.mp ha).1
        exact ⟨vs[j]'(by rw [A.lv]; exact hj), List.getElem?_eq_getElem _⟩
      refine ⟨v, by rw [List.getElem?_map, hv]; rfl, ?_⟩
      have z := A.at_ j a v q ha hv hq
      cases a with
      | v m =>
        obtain ⟨d, rfl, z⟩ := z
        have e : some r = some (RV.val d) := e
        cases e
        exact z
      | slot i =>
        have e : some r = (s2[i]?).join := e
        cases w : s2[i]? with
        | none => rw [w] at e; cases e
        | some w' =>
          rw [w] at e
          obtain ⟨v', a1, a2⟩ := R2.ok i r (by rw [w]; exact congrArg some e.symm)
          have z : σ[i]? = some (some v) := z
          rw [z] at a1
          cases a1
          exact a2
      | new m =>
        have e : some r = some q := e
        cases e
        exact RvNew.at_ z
    · rcases own i r x h1 o1 (hvs _ _ h3) with ⟨k, a1, a2, a3⟩ | ⟨m, a1, a2, a3⟩ <;> rcases own j q x h2 o2 (hvs _ _ h4) with ⟨l, b1, b2, b3⟩ | ⟨n, b1, b2, b3⟩
      · have := R2.sep k l r q x a2 b2 o1 o2 a3 b3
        subst this
        exact slots_inj as i j k nd a1 b1
      · exact absurd (S2.owns ⟨k, r, a2, o1, a3⟩) (own_new hR.toRel0 b3)
      · exact absurd (S2.owns ⟨l, q, b2, o2, b3⟩) (own_new hR.toRel0 a3)
      · exact A.sep i j _ _ r q x a1 b1 rfl rfl a2 b2 o1 o2 (hvs _ _ h3) (hvs _ _ h4)
  refine ⟨R, cls, fun xs H' ev R' S' _ => ?_⟩
  have hxl : xs.length = as.length := by rw [R'.len, List.length_map, A.lv]
  have hback : ∀ (i : Nat) (r : RV), (back as xs s2)[i]? = some (some r) → (∃ j : Nat, as[j]? = some (Arg.slot i) ∧ xs[j]? = some (some r)) ∨ ((∀ (j : Nat), as[j]? ≠ some (Arg.slot i)) ∧ s2[i]? = some (some r)) := fun i r h => by
    have hi : i < s2.length := by
      have := (List.getElem?_eq_some_iff.mp h).1
      rw [back_len] at this
      exact this
    rcases back_get as xs s2 i nd hxl hi with ⟨j, x, h1, h2, h3⟩ | ⟨h1, h2⟩
    · rw [h] at h3
      cases h3
      exact .inl ⟨j, h1, h2⟩
    · rw [h] at h2
      exact .inr ⟨h1, h2.symm⟩
  have sub : Sub s2 (back as xs s2) := fun i r h o => by
    rcases hback i r h with ⟨j, h1, h2⟩ | ⟨_, h2⟩
    · obtain ⟨q, a1, a2⟩ := S' j r h2 o
      obtain ⟨a, p, b1, b2, b3⟩ := argsOf_get s2 as rs j _ a1
      rw [h1] at b1
      cases b1
      have e : some q = (s2[i]?).join := b3
      cases w : s2[i]? with
      | none => rw [w] at e; cases e
      | some w' => rw [w] at e; exact ⟨q, congrArg some e.symm, a2⟩
    · exact ⟨r, h2, o⟩
  refine ⟨e2.trans ev fun x z => ?_, ⟨by rw [back_len]; exact R2.len, fun i r h => ?_, fun i j r q x h1 h2 o1 o2 h3 h4 => ?_⟩, sub⟩
  · rcases cls x z with ⟨z, _⟩ | z
    · exact .inl (S2.owns z)
    · exact .inr z
  · rcases hback i r h with ⟨j, h1, h2⟩ | ⟨h1, h2⟩
    · obtain ⟨v, a1, a2⟩ := R'.ok j r h2
      exact ⟨v, slotv j i v h1 (hvs _ _ a1), a2⟩
    · obtain ⟨v, a1, a2⟩ := R2.ok i r h2
      refine ⟨v, a1, a2.later ev.ext fun o x u ex hu => ev.keep x u hu fun z => ?_⟩
      subst ex
      obtain ⟨j, q, b1, b2, b3⟩ := z
      rcases own j q x b1 b2 (hvs _ _ b3) with ⟨k, c1, c2, c3⟩ | ⟨m, _, _, n⟩
      · have := R2.sep k i q r x c2 h2 b2 o c3 a1
        subst this
        exact h1 j c1
      · exact own_new hR.toRel0 n (S2.owns ⟨i, r, h2, o, a1⟩)
  · obtain ⟨r', a1, a2⟩ := sub i r h1 o1
    obtain ⟨q', b1, b2⟩ := sub j q h2 o2
    exact R2.sep i j r' q' x a1 b1 a2 b2 h3 h4

variable {x : Str} {p : Pos}
end
end Dt

end
section
set_option maxRecDepth 100000
set_option autoImplicit false
namespace Dt
open PySem PySem.Spec PyProof.Rows L2

/-! ### statements -/
inductive Flow where
  | nx | bk | ct | rt (r : RV) | ex (c : Str) (d : D)
abbrev MS := DSt → Option (Flow × DSt)
/-- the state of a body that was entered with the arguments σ0, worth rs, at the heap H0; ow: the parameters that are handed in to be changed -/
structure Ent where
  K : PySem.W.Frag
  ec : EC
  E : L2.WX
  σ0 : Sl
  rs : DSt
  H0 : Hp
  ow : List Nat
structure RelS (c : Ent) (σ : Sl) (H : Hp) (s : DSt) : Prop extends Rel c.K σ H s where
  evo : Evo (OwnsA c.σ0 c.rs) c.H0 H
  base : ∀ (i : Nat) (r : RV) (a : Addr), s[i]? = some (some r) → r.isOwn = true → σ[i]? = some (some (.ref a)) → (i ∈ c.ow ∧ OwnsA c.σ0 c.rs a) ∨ c.H0 a = none
  par : ∀ i, i ∈ c.ow → σ[i]? = c.σ0[i]?
  osub : ∀ (i : Nat) (r : RV), i ∈ c.ow → s[i]? = some (some r) → r.isOwn = true → ∃ r' : RV, c.rs[i]? = some (some r') ∧ r'.isOwn = true
def EndS (c : Ent) (H : Hp) (D : Ends) : Option (Flow × DSt) → Prop
  | none => False
  | some (.nx, s') => ∀ σ' H', Ext H H' → RelS c σ' H' s' → D.nx σ' H'
  | some (.bk, s') => ∀ σ' H', Ext H H' → RelS c σ' H' s' → D.bk σ' H'
  | some (.ct, s') => ∀ σ' H', Ext H H' → RelS c σ' H' s' → D.ct σ' H'
  | some (.rt r, s') => ∀ v σ' H', Ext H H' → RelS c σ' H' s' → RvNew c.K c.H0 H' v r → D.rt v H'
  | some (.ex k d, s') => ∀ cls dx σ' H', Ext H H' → RelS c σ' H' s' → ErrAt c.K c.ec H' k d cls dx → c.E cls dx σ' H'
theorem EndS.later {c : Ent} {H H1 : Hp} {D : Ends} {o : Option (Flow × DSt)} (h : EndS c H D o) (e : Ext H H1) : EndS c H1 D o := by
  cases o with
  | none => exact h
  | some p =>
    obtain ⟨f, s'⟩ := p
    cases f with
    | nx => exact fun σ' H' a b => h σ' H' (e.trans a) b
    | bk => exact fun σ' H' a b => h σ' H' (e.trans a) b
    | ct => exact fun σ' H' a b => h σ' H' (e.trans a) b
    | rt r => exact fun v σ' H' a b d => h v σ' H' (e.trans a) b d
    | ex k d => exact fun cl dx σ' H' a b d => h cl dx σ' H' (e.trans a) b d
/-- an expression, then what is done with it -/
def bndS {α : Type} (m : M α) (k : α → MS) : MS := fun s => match m s with
  | none => none
  | some (.ok a, s') => k a s'
  | some (.err c d, s') => some (.ex c d, s')
def seqS (m n : MS) : MS := fun s => match m s with
  | none => none
  | some (.nx, s') => n s'
  | some (o, s') => some (o, s')
def nxS : MS := fun s => some (.nx, s)
structure DS (X : Cx) (ec : EC) (E : L2.WX) (ow : List Nat) (st : Stmt) (m : MS) : Prop where
  run : ∃ t, PS X st t ∧ ∀ (c : Ent), c.K = X.K → c.ec = ec → c.E = E → c.ow = ow → ∀ σ H s D, RelS c σ H s → EndS c H D (m s) → t D σ H
structure DSs (X : Cx) (ec : EC) (E : L2.WX) (ow : List Nat) (st : List Stmt) (m : MS) : Prop where
  run : ∃ t, PSs X st t ∧ ∀ (c : Ent), c.K = X.K → c.ec = ec → c.E = E → c.ow = ow → ∀ σ H s D, RelS c σ H s → EndS c H D (m s) → t D σ H

theorem RelS.step {c : Ent} {σ : Sl} {H H' : Hp} {s s' : DSt} (R : RelS c σ H s) (e : Evo (OwnsA σ s) H H') (R' : Rel c.K σ H' s') (S : Sub s s') : RelS c σ H' s' := by
  refine ⟨R', R.evo.trans e fun a ⟨i, r, h1, h2, h3⟩ => ?_, fun i r a h1 h2 h3 => ?_, R.par, fun i r h1 h2 h3 => ?_⟩
  · rcases R.base i r a h1 h2 h3 with ⟨_, z⟩ | z
    · exact .inl z
    · exact .inr z
  · obtain ⟨r', a1, a2⟩ := S i r h1 h2
    exact R.base i r' a a1 a2 h3
  · obtain ⟨r', a1, a2⟩ := S i r h2 h3
    exact R.osub i r' h1 a1 a2
/-- an expression in a statement -/
theorem useE {α γ : Type} {c : Ent} {R : Sl → Hp → Hp → γ → α → Prop} {m : M α} {t : Sl → Hp → (γ → Hp → Prop) → Prop} {k : α → MS} {σ : Sl} {H : Hp} {s : DSt} {D : Ends} {Q : γ → Hp → Prop} (h : Comes c.K c.ec c.E R m t) (S : RelS c σ H s) (hm : EndS c H D (bndS m k s))
    (hq : ∀ r s' H' g, Evo (OwnsA σ s) H H' → Sub s s' → RelS c σ H' s' → R σ H H' g r → EndS c H' D (k r s') → Q g H') : t σ H Q := by
  refine h σ H s Q S.toRel ?_
  unfold bndS at hm
  cases e : m s with
  | none => rw [e] at hm; exact hm
  | some p =>
    obtain ⟨r, s'⟩ := p
    rw [e] at hm
    cases r with
    | ok r => exact fun H' a b d g hg => hq r s' H' g a d (S.step a b d) hg (EndS.later (show EndS c H D (k r s') from hm) a.ext)
    | err k d => exact fun cls dx H' a b d he => hm cls dx σ H' a.ext (S.step a b d) he

section
variable {X : Cx} {ec : EC} {E : L2.WX} {ow : List Nat} {st : Stmt} {sts : List Stmt} {e : Expr} {pos : Pos}
theorem dss_nil : DSs X ec E ow [] nxS := ⟨_, pss_nil, fun c _ _ _ _ σ H s D R h => h σ H (Ext.refl _) R⟩
theorem dss_one {m : MS} (h : DS X ec E ow st m) : DSs X ec E ow [st] m := by
  obtain ⟨t, h1, h2⟩ := h.run
  exact ⟨t, pss_one h1, h2⟩
theorem dss_cons {m n : MS} (h : DS X ec E ow st m) (h' : DSs X ec E ow sts n) : DSs X ec E ow (st :: sts) (seqS m n) := by
  obtain ⟨t, h1, h2⟩ := h.run
  obtain ⟨u, h3, h4⟩ := h'.run
  refine ⟨_, pss_cons h1 h3, fun c k1 k2 k3 k4 σ H s D R hm => ?_⟩
  refine h2 c k1 k2 k3 k4 σ H s _ R ?_
  unfold seqS at hm
  cases q : m s with
  | none => rw [q] at hm; exact hm
  | some p =>
    obtain ⟨f, s1⟩ := p
    rw [q] at hm
    cases f with
    | nx => exact fun σ' H' ex R' => h4 c k1 k2 k3 k4 σ' H' s1 D R' (EndS.later (show EndS c H D (n s1) from hm) ex)
    | bk => exact hm
    | ct => exact hm
    | rt r => exact hm
    | ex k d => exact hm
theorem ds_pass : DS X ec E ow (.Pass pos) nxS := ⟨_, ps_pass, fun c _ _ _ _ σ H s D R h => h σ H (Ext.refl _) R⟩
theorem ds_break : DS X ec E ow (.Break pos) (fun s => some (.bk, s)) := ⟨_, ps_break, fun c _ _ _ _ σ H s D R h => h σ H (Ext.refl _) R⟩
theorem ds_continue : DS X ec E ow (.Continue pos) (fun s => some (.ct, s)) := ⟨_, ps_continue, fun c _ _ _ _ σ H s D R h => h σ H (Ext.refl _) R⟩
def exprS {α : Type} (m : M α) : MS := bndS m fun _ => nxS
theorem ds_expr {m : M D} (h : DV X ec E e m) (hs : swapsWith e none pos.line X.env = pure false) : DS X ec E ow (.Expr e pos) (exprS m) := by
  obtain ⟨t, h1, h2⟩ := h.run
  refine ⟨_, ps_expr h1 hs, fun c k1 k2 k3 k4 σ H s D R hm => ?_⟩
  subst k2 k3
  rw [← k1] at h2
  exact useE (k := fun _ => nxS) h2 R hm fun r s' H' g ev _ R' _ hk => hk σ H' (Ext.refl _) R'
theorem RvNew.base {K : PySem.W.Frag} {H0 H H' : Hp} {v : V} {r : RV} (h : RvNew K H H' v r) (f : ∀ p, H p = none → H0 p = none) : RvNew K H0 H' v r := h.back f
def retS (m : M RV) : MS := bndS m fun r s => some (.rt r, s)
theorem ds_ret {m : M RV} (h : DR X ec E e m) : DS X ec E ow (.Return (some e) pos) (retS m) := by
  obtain ⟨t, h1, h2⟩ := h.run
  refine ⟨_, ps_ret h1, fun c k1 k2 k3 k4 σ H s D R hm => ?_⟩
  subst k2 k3
  rw [← k1] at h2
  exact useE (k := fun r s => some (.rt r, s)) h2 R hm fun r s' H' g ev sb R' hg hk => hk g σ H' (Ext.refl _) R' (by
    have hg : RvNew X.K H H' g r := by rw [← k1]; exact hg
    rw [k1]
    exact hg.back R.evo.free)
theorem ds_retN : DS X ec E ow (.Return none pos) (fun s => some (.rt (.val .non), s)) := by
  refine ⟨_, ps_retN, fun c k1 k2 k3 k4 σ H s D R hm => ?_⟩
  exact hm .non σ H (Ext.refl _) R rfl
/-- a local's own object, handed out -/
def moveS (i : Nat) : MS := fun s => match s[i]? with
  | some (some r) => some (.rt r, s)
  | _ => none
theorem ds_move {i : Nat} (h : PE X e (tVar i)) (hi : i ∉ ow) : DS X ec E ow (.Return (some e) pos) (moveS i) := by
  refine ⟨_, ps_ret h, fun c k1 k2 k3 k4 σ H s D R hm => ?_⟩
  unfold moveS at hm
  cases q : s[i]? with
  | none => rw [q] at hm; exact hm.elim
  | some o =>
    rw [q] at hm
    cases o with
    | none => exact hm.elim
    | some r =>
      obtain ⟨v, a1, a2⟩ := R.ok i r q
      refine ⟨v, a1, hm v σ H (Ext.refl _) R ?_⟩
      cases r with
      | val d => exact a2
      | own d =>
        obtain ⟨x, rfl, q2⟩ := a2
        rcases R.base i _ x q rfl a1 with ⟨z, _⟩ | z
        · exact absurd (k4 ▸ z) hi
        · exact ⟨x, rfl, z, q2⟩
def ifS (m : M Bool) (x y : MS) : MS := bndS m fun b => if b = true then x else y
theorem ds_if {c : Expr} {a b : List Stmt} {m : M Bool} {x y : MS} (h : DT X ec E c m) (ha : DSs X ec E ow a x) (hb : DSs X ec E ow b y) : DS X ec E ow (.If c a b pos) (ifS m x y) := by
  obtain ⟨t, h1, h2⟩ := h.run
  obtain ⟨u, h3, h4⟩ := ha.run
  obtain ⟨u', h5, h6⟩ := hb.run
  refine ⟨_, ps_if h1 h3 h5, fun c k1 k2 k3 k4 σ H s D R hm => ?_⟩
  have h2' : Comes c.K c.ec c.E RBl m t := by rw [k1, k2, k3]; exact h2
  refine useE (k := fun b => if b = true then x else y) h2' R hm fun r s' H' g ev sb R' hg hk => ?_
  have hg : g = r := hg
  subst hg
  cases g with
  | true => exact h4 c k1 k2 k3 k4 σ H' s' D R' hk
  | false => exact h6 c k1 k2 k3 k4 σ H' s' D R' hk

/-! ### assignment -/
theorem sets_owns {σ : Sl} {s : DSt} {i : Nat} {v : V} {r : RV} {a : Addr} (h : OwnsA (σ.set i (some v)) (s.set i (some r)) a) : OwnsA σ s a ∨ (r.isOwn = true ∧ v = .ref a) := by
  obtain ⟨j, q, h1, h2, h3⟩ := h
  by_cases e : i = j
  · subst e
    have hi : i < s.length := by
      have := (List.getElem?_eq_some_iff.mp h1).1
      rw [List.length_set] at this
      exact this
    rw [List.getElem?_set_self hi] at h1
    cases h1
    have hj : i < σ.length := by
      have := (List.getElem?_eq_some_iff.mp h3).1
      rw [List.length_set] at this
      exact this
    rw [List.getElem?_set_self hj] at h3
    cases h3
    exact .inr ⟨h2, rfl⟩
  · rw [List.getElem?_set_ne e] at h1 h3
    exact .inl ⟨j, q, h1, h2, h3⟩
/-- a slot is filled -/
theorem RelS.set {c : Ent} {σ : Sl} {H : Hp} {s : DSt} {i : Nat} {v : V} {r : RV} (R : RelS c σ H s) (hi : i ∉ c.ow) (hr : RvAt c.K H v r) (hn : r.isOwn = true → ∀ a, v = .ref a → c.H0 a = none ∧ ¬ OwnsA σ s a) : RelS c (σ.set i (some v)) H (s.set i (some r)) := by
  refine ⟨⟨⟨by rw [List.length_set, List.length_set]; exact R.len, fun j q h => ?_, fun j k q q' a h1 h2 o1 o2 h3 h4 => ?_⟩, R.bnd⟩, R.evo, fun j q a h1 o h3 => ?_, fun j hj => ?_, fun j q h0 h1 o => ?_⟩
  · by_cases e : i = j
    · subst e
      have hl : i < s.length := by
        have := (List.getElem?_eq_some_iff.mp h).1
        rw [List.length_set] at this
        exact this
      rw [List.getElem?_set_self hl] at h
      cases h
      exact ⟨v, List.getElem?_set_self (by rw [← R.len]; exact hl), hr⟩
    · rw [List.getElem?_set_ne e] at h
      obtain ⟨w, a1, a2⟩ := R.ok j q h
      exact ⟨w, by rw [List.getElem?_set_ne e]; exact a1, a2⟩
  · have get : ∀ (m : Nat) (p : RV), (s.set i (some r))[m]? = some (some p) → (σ.set i (some v))[m]? = some (some (.ref a)) → (m = i ∧ p = r ∧ v = .ref a) ∨ (m ≠ i ∧ s[m]? = some (some p) ∧ σ[m]? = some (some (.ref a))) := fun m p a1 a2 => by
      by_cases e : i = m
      · subst e
        have hl : i < s.length := by
          have := (List.getElem?_eq_some_iff.mp a1).1
          rw [List.length_set] at this
          exact this
        rw [List.getElem?_set_self hl] at a1
        rw [List.getElem?_set_self (by rw [← R.len]; exact hl)] at a2
        cases a1
        cases a2
        exact .inl ⟨rfl, rfl, rfl⟩
      · rw [List.getElem?_set_ne e] at a1 a2
        exact .inr ⟨fun z => e z.symm, a1, a2⟩
    rcases get j q h1 h3 with ⟨e1, e2, e3⟩ | ⟨e1, e2, e3⟩ <;> rcases get k q' h2 h4 with ⟨f1, f2, f3⟩ | ⟨f1, f2, f3⟩
    · rw [e1, f1]
    · subst e2
      exact absurd ⟨k, q', f2, o2, f3⟩ (hn o1 a e3).2
    · subst f2
      exact absurd ⟨j, q, e2, o1, e3⟩ (hn o2 a f3).2
    · exact R.sep j k q q' a e2 f2 o1 o2 e3 f3
  · by_cases e : i = j
    · subst e
      have hl : i < s.length := by
        have := (List.getElem?_eq_some_iff.mp h1).1
        rw [List.length_set] at this
        exact this
      rw [List.getElem?_set_self hl] at h1
      rw [List.getElem?_set_self (by rw [← R.len]; exact hl)] at h3
      cases h1
      cases h3
      exact .inr (hn o a rfl).1
    · rw [List.getElem?_set_ne e] at h1 h3
      exact R.base j q a h1 o h3
  · rw [List.getElem?_set_ne (fun z => hi (by rw [z]; exact hj))]
    exact R.par j hj
  · rw [List.getElem?_set_ne (fun z => hi (by rw [z]; exact h0))] at h1
    exact R.osub j q h0 h1 o
def setS (i : Nat) (m : M RV) : MS := bndS m fun r s => if i < s.length then some (.nx, s.set i (some r)) else none
theorem ds_set {i : Nat} {x : Str} {m : M RV} {px : Pos} (h : DR X ec E e m) (hN : X.N.Nodup) (hx : X.N[i]? = some x) (hl : Loc X.env.scope x) (hi : i ∉ ow) (hs : swapsWith e (some (.Name x px)) pos.line X.env = pure false) (hf : X.fn x = true ∨ X.env.scope.names.lookup x = some .local) :
    DS X ec E ow (.Assign [.Name x px] e pos) (setS i m) := by
  obtain ⟨t, h1, h2⟩ := h.run
  refine ⟨_, ps_set hN hx hl h1 hs hf, fun c k1 k2 k3 k4 σ H s D R hm => ?_⟩
  have h2' : Comes c.K c.ec c.E (RNew c.K) m t := by rw [k1, k2, k3]; exact h2
  refine useE (k := fun r s => if i < s.length then some (.nx, s.set i (some r)) else none) h2' R hm fun r s' H' g ev sb R' hg hk => ?_
  have hg : RvNew c.K H H' g r := hg
  by_cases q : i < s'.length
  · rw [if_pos q] at hk
    refine hk _ _ (Ext.refl _) (R'.set (by rw [k4]; exact hi) hg.at_ fun o a ea => ?_)
    subst ea
    obtain ⟨n, _⟩ := hg.fresh o
    exact ⟨R.evo.free a n, fun z => own_new R.toRel0 n (sb.owns z)⟩
  · rw [if_neg q] at hk
    exact hk.elim

/-! ### targets -/
inductive Tg where
  | name (i : Nat) | tup (ts : List Tg)
mutual
def Tg.go : Tg → D → DSt → Option DSt
  | .name i, d, s => if i < s.length then some (s.set i (some (.val d))) else none
  | .tup ts, d, s => match d with
    | .tup ds => Tg.gos ts ds s
    | _ => none
def Tg.gos : List Tg → List D → DSt → Option DSt
  | [], [], s => some s
  | t :: ts, d :: ds, s => match t.go d s with
    | some s' => Tg.gos ts ds s'
    | none => none
  | _, _, _ => none
end
mutual
def Tg.slots : Tg → List Nat
  | .name i => [i]
  | .tup ts => Tg.slotss ts
def Tg.slotss : List Tg → List Nat
  | [] => []
  | t :: ts => t.slots ++ Tg.slotss ts
end
/-- behind a target's store: the state, elsewhere as it was -/
structure Stored (K : PySem.W.Frag) (is : List Nat) (σ σ' : Sl) (H : Hp) (s s' : DSt) : Prop where
  rel : Rel K σ' H s'
  len : σ'.length = σ.length
  at_ : ∀ j, j ∉ is → σ'[j]? = σ[j]?
  st : ∀ j, j ∉ is → s'[j]? = s[j]?
  val : ∀ j r, j ∈ is → s'[j]? = some (some r) → r.isOwn = true → s[j]? = some (some r) ∧ σ'[j]? = σ[j]?
structure DTg (X : Cx) (tg : Expr) (f : Tg) : Prop where
  run : ∃ g, PG X tg g ∧ ∀ σ H s v d Q, Rel X.K σ H s → At X.K H d v → (match f.go d s with
    | none => False
    | some s' => ∀ σ', Stored X.K f.slots σ σ' H s s' → Q σ' H) → g v σ H Q
structure DTgs (X : Cx) (tgs : List Expr) (fs : List Tg) : Prop where
  run : ∃ g, PGs X tgs g ∧ ∀ σ H s vs ds Q, Rel X.K σ H s → AtAll X.K H ds vs → (match Tg.gos fs ds s with
    | none => False
    | some s' => ∀ σ', Stored X.K (Tg.slotss fs) σ σ' H s s' → Q σ' H) → g vs σ H Q
theorem Rel.setV {K : PySem.W.Frag} {σ : Sl} {H : Hp} {s : DSt} {i : Nat} {v : V} {d : D} (R : Rel K σ H s) (hr : At K H d v) : Rel K (σ.set i (some v)) H (s.set i (some (.val d))) := by
  refine ⟨⟨by rw [List.length_set, List.length_set]; exact R.len, fun j q h => ?_, fun j k q q' a h1 h2 o1 o2 h3 h4 => ?_⟩, R.bnd⟩
  · by_cases e : i = j
    · subst e
      have hl : i < s.length := by
        have := (List.getElem?_eq_some_iff.mp h).1
        rw [List.length_set] at this
        exact this
      rw [List.getElem?_set_self hl] at h
      cases h
      exact ⟨v, List.getElem?_set_self (by rw [← R.len]; exact hl), hr⟩
    · rw [List.getElem?_set_ne e] at h
      obtain ⟨w, a1, a2⟩ := R.ok j q h
      exact ⟨w, by rw [List.getElem?_set_ne e]; exact a1, a2⟩
  · have get : ∀ (m : Nat) (p : RV), (s.set i (some (.val d)))[m]? = some (some p) → p.isOwn = true → (σ.set i (some v))[m]? = some (some (.ref a)) → s[m]? = some (some p) ∧ σ[m]? = some (some (.ref a)) := fun m p a1 o a2 => by
      by_cases e : i = m
      · subst e
        have hl : i < s.length := by
          have := (List.getElem?_eq_some_iff.mp a1).1
          rw [List.length_set] at this
          exact this
        rw [List.getElem?_set_self hl] at a1
        cases a1
        cases o
      · rw [List.getElem?_set_ne e] at a1 a2
        exact ⟨a1, a2⟩
    obtain ⟨x1, x2⟩ := get j q h1 o1 h3
    obtain ⟨y1, y2⟩ := get k q' h2 o2 h4
    exact R.sep j k q q' a x1 y1 o1 o2 x2 y2
theorem dtg_name {i : Nat} {x : Str} {px : Pos} (hN : X.N.Nodup) (hx : X.N[i]? = some x) (hl : Loc X.env.scope x) (hf : X.fn x = true ∨ X.env.scope.names.lookup x = some .local) : DTg X (.Name x px) (.name i) := by
  refine ⟨_, pg_name hN hx hl hf, fun σ H s v d Q R hv hm => ?_⟩
  have hm : (match (if i < s.length then some (s.set i (some (.val d))) else none) with
    | none => False
    | some s' => ∀ σ', Stored X.K [i] σ σ' H s s' → Q σ' H) := hm
  by_cases q : i < s.length
  · rw [if_pos q] at hm
    refine hm _ ⟨R.setV hv, List.length_set, fun j hj => ?_, fun j hj => ?_, fun j r hj h o => ?_⟩
    · rw [List.getElem?_set_ne (fun z => hj (by simp [z]))]
    · rw [List.getElem?_set_ne (fun z => hj (by simp [z]))]
    · have e : j = i := by simpa using hj
      subst e
      rw [List.getElem?_set_self q] at h
      cases h
      cases o
  · rw [if_neg q] at hm
    exact hm.elim
theorem dtgs_nil : DTgs X [] [] := by
  refine ⟨_, pgs_nil, fun σ H s vs ds Q R hv hm => ?_⟩
  cases ds with
  | nil => exact ⟨hv.inv0, hm σ ⟨R, rfl, fun _ _ => rfl, fun _ _ => rfl, fun j r hj => by simp [Tg.slotss] at hj⟩⟩
  | cons d ds => exact hm.elim
theorem dtgs_cons {tg : Expr} {tgs : List Expr} {f : Tg} {fs : List Tg} (h : DTg X tg f) (h' : DTgs X tgs fs) (hs : (assignEach (tg :: tgs) X.env).map (·.2) = assign tg X.env :: (assignEach tgs X.env).map (·.2)) : DTgs X (tg :: tgs) (f :: fs) := by
  obtain ⟨g, h1, h2⟩ := h.run
  obtain ⟨g', h3, h4⟩ := h'.run
  refine ⟨_, pgs_cons h1 h3 hs, fun σ H s vs ds Q R hv hm => ?_⟩
  cases ds with
  | nil => exact hm.elim
  | cons d ds =>
    obtain ⟨v, r, rfl, hv1, hv2⟩ := hv.inv
    refine ⟨v, r, rfl, ?_⟩
    refine h2 σ H s v d _ R hv1 ?_
    have hm : (match (match f.go d s with
      | some s' => Tg.gos fs ds s'
      | none => none) with
      | none => False
      | some s' => ∀ σ', Stored X.K (f.slots ++ Tg.slotss fs) σ σ' H s s' → Q σ' H) := hm
    cases e : f.go d s with
    | none => rw [e] at hm; exact hm
    | some s1 =>
      rw [e] at hm
      intro σ1 S1
      refine h4 σ1 H s1 r ds Q S1.rel hv2 ?_
      have hm : (match Tg.gos fs ds s1 with
        | none => False
        | some s' => ∀ σ', Stored X.K (f.slots ++ Tg.slotss fs) σ σ' H s s' → Q σ' H) := hm
      cases e2 : Tg.gos fs ds s1 with
      | none => rw [e2] at hm; exact hm
      | some s2 =>
        rw [e2] at hm
        refine fun σ2 S2 => hm σ2 ⟨S2.rel, S2.len.trans S1.len, fun j hj => ?_, fun j hj => ?_, fun j q hj h o => ?_⟩
        · simp only [List.mem_append, not_or] at hj
          rw [S2.at_ j hj.2, S1.at_ j hj.1]
        · simp only [List.mem_append, not_or] at hj
          rw [S2.st j hj.2, S1.st j hj.1]
        · by_cases c2 : j ∈ Tg.slotss fs
          · obtain ⟨a1, a2⟩ := S2.val j q c2 h o
            by_cases c1 : j ∈ f.slots
            · obtain ⟨b1, b2⟩ := S1.val j q c1 a1 o
              exact ⟨b1, a2.trans b2⟩
            · exact ⟨by rw [← S1.st j c1]; exact a1, by rw [a2, S1.at_ j c1]⟩
          · rw [S2.st j c2] at h
            have c1 : j ∈ f.slots := by
              rcases List.mem_append.mp hj with z | z
              · exact z
              · exact absurd z c2
            obtain ⟨b1, b2⟩ := S1.val j q c1 h o
            exact ⟨b1, by rw [S2.at_ j c2]; exact b2⟩
theorem dtg_tup {tgs : List Expr} {fs : List Tg} {k : Nat} {px : Pos} (hc : X.calm = true) (h : DTgs X tgs fs) (hn : (assignEach tgs X.env).length = fs.length) (hst : (assignEach tgs X.env).findIdx? (·.1) = none) : DTg X (.Tuple tgs k px) (.tup fs) := by
  obtain ⟨g, h1, h2⟩ := h.run
  refine ⟨_, pg_tup hc h1 rfl hst, fun σ H s v d Q R hv hm => ?_⟩
  have hm : (match (match d with
    | .tup ds => Tg.gos fs ds s
    | _ => none) with
    | none => False
    | some s' => ∀ σ', Stored X.K (Tg.slotss fs) σ σ' H s s' → Q σ' H) := by
    cases d <;> exact hm
  cases d with
  | tup ds =>
    obtain ⟨a, xs, rfl, q1, q2⟩ := (At.ct hv).tup
    refine ⟨a, xs, rfl, q1, ?_, h2 σ H s xs ds Q R q2 hm⟩
    rw [hn, q2.len]
    have hlen : ∀ (fs : List Tg) (ds : List D) (s s' : DSt), Tg.gos fs ds s = some s' → ds.length = fs.length := by
      intro fs
      induction fs with
      | nil =>
        intro ds s s' h
        cases ds with
        | nil => rfl
        | cons d ds => cases h
      | cons f fs ih =>
        intro ds s s' h
        cases ds with
        | nil => cases h
        | cons d ds =>
          have h : (match f.go d s with
            | some s' => Tg.gos fs ds s'
            | none => none) = some s' := h
          cases e : f.go d s with
          | none => rw [e] at h; cases h
          | some s1 => rw [e] at h; simp [ih ds s1 s' h]
    cases e : Tg.gos fs ds s with
    | none =>
      have hm : (match Tg.gos fs ds s with
        | none => False
        | some s' => ∀ σ', Stored X.K (Tg.slotss fs) σ σ' H s s' → Q σ' H) := hm
      rw [e] at hm
      exact hm.elim
    | some s' => exact hlen fs ds s s' e
  | _ => exact hm.elim
theorem RelS.stored {c : Ent} {is : List Nat} {σ σ' : Sl} {H : Hp} {s s' : DSt} (R : RelS c σ H s) (S : Stored c.K is σ σ' H s s') (hi : ∀ i ∈ is, i ∉ c.ow) : RelS c σ' H s' := by
  refine ⟨S.rel, R.evo, fun j q a h1 o h3 => ?_, fun j hj => ?_, fun j q h0 h1 o => ?_⟩
  · by_cases e : j ∈ is
    · obtain ⟨a1, a2⟩ := S.val j q e h1 o
      exact R.base j q a a1 o (a2 ▸ h3)
    · rw [S.st j e] at h1
      rw [S.at_ j e] at h3
      exact R.base j q a h1 o h3
  · rw [S.at_ j (fun z => hi j z hj)]
    exact R.par j hj
  · rw [S.st j (fun z => hi j z h0)] at h1
    exact R.osub j q h0 h1 o
def asgS (f : Tg) (m : M D) : MS := bndS m fun d s => match f.go d s with
  | none => none
  | some s' => some (.nx, s')
theorem ds_asg {tg : Expr} {f : Tg} {m : M D} (h : DV X ec E e m) (hg : DTg X tg f) (hi : ∀ i ∈ f.slots, i ∉ ow) (hs : swapsWithSole [tg] e pos.line X.env = pure false) (hw : swappedStores [tg] e X.env = pure none) (hz : (assignEach [tg] X.env).map (·.2) = [assign tg X.env]) : DS X ec E ow (.Assign [tg] e pos) (asgS f m) := by
  obtain ⟨t, h1, h2⟩ := h.run
  obtain ⟨g, h3, h4⟩ := hg.run
  refine ⟨_, ps_asg h1 h3 hs hw hz, fun c k1 k2 k3 k4 σ H s D R hm => ?_⟩
  have h2' : Comes c.K c.ec c.E (RVal c.K) m t := by rw [k1, k2, k3]; exact h2
  refine useE (k := fun d s => match f.go d s with
    | none => none
    | some s' => some (.nx, s')) h2' R hm fun r s' H' v ev sb R' hv hk => ?_
  have R2 : Rel X.K σ H' s' := by rw [← k1]; exact R'.toRel
  refine h4 σ H' s' v r D.nx R2 (by rw [← k1]; exact hv) ?_
  cases e : f.go r s' with
  | none => rw [e] at hk; exact hk.elim
  | some s2 =>
    rw [e] at hk
    exact fun σ' S => hk σ' H' (Ext.refl _) (R'.stored (by rw [k1]; exact S) (by rw [k4]; exact hi))

/-! ### loops -/
/-- what is walked: the items ds, from the heap H' on -/
structure Walks (K : PySem.W.Frag) (J : It) (ds : List D) (H' : Hp) : Prop where
  go : ∀ i H1, Ext H' H1 → i < ds.length → J.go i H1
  yld : ∀ i H1 x H2, Ext H' H1 → J.yld i H1 x H2 → Evo noA H1 H2 ∧ (Bounded K H1 → Bounded K H2) ∧ ∀ d, ds[i]? = some d → At K H2 d x
  stop : ∀ H1, Ext H' H1 → J.stop ds.length H1
  line : ds.length ≤ sizeLine
abbrev RWk (K : PySem.W.Frag) : Sl → Hp → Hp → It → List D → Prop := fun _ _ H' J ds => Walks K J ds H'
structure DI (X : Cx) (ec : EC) (E : L2.WX) (tg e : Expr) (m : M (List D)) : Prop where
  run : ∃ w, PI X tg e w ∧ Comes X.K ec E (RWk X.K) m w
def forM (f : Tg) (b : MS) : List D → MS
  | [], s => some (.nx, s)
  | d :: ds, s => match f.go d s with
    | none => none
    | some s1 => match b s1 with
      | none => none
      | some (.nx, s2) => forM f b ds s2
      | some (.ct, s2) => forM f b ds s2
      | some (.bk, s2) => some (.nx, s2)
      | some (o, s2) => some (o, s2)
def forS (f : Tg) (m : M (List D)) (b : MS) : MS := bndS m fun ds => forM f b ds
theorem drop_cons' {α : Type} {l : List α} {i : Nat} (h : i < l.length) : l.drop i = l[i] :: l.drop (i + 1) := (List.getElem_cons_drop h).symm
theorem ds_for {iter tg : Expr} {body : List Stmt} {f : Tg} {m : M (List D)} {b : MS} (hp : PassesOwn (model X.prog X.w) X.A X.env X.xe) (hc : X.calm = true) (hfi : ∀ x, foldedSetIterable iter X.env x = pure x) (hi : DI X ec E tg iter m) (hg : DTg X tg f) (hb : DSs X ec E ow body b) (ho : ∀ i ∈ f.slots, i ∉ ow) :
    DS X ec E ow (.For tg iter body [] pos) (forS f m b) := by
  obtain ⟨w, h1, h2⟩ := hi.run
  obtain ⟨g, h3, h4⟩ := hg.run
  obtain ⟨t, h5, h6⟩ := hb.run
  refine ⟨_, ps_for hp hc h1 h3 h5 hfi, fun c k1 k2 k3 k4 σ H s D R hm => ?_⟩
  have h2' : Comes c.K c.ec c.E (RWk c.K) m w := by rw [k1, k2, k3]; exact h2
  refine useE (k := fun ds => forM f b ds) h2' R hm fun ds s' H' J ev sb R' hw hk => ?_
  refine ⟨fun i m σ1 H1 => m = ds.length - i ∧ i ≤ ds.length ∧ Ext H' H1 ∧ ∃ s1, RelS c σ1 H1 s1 ∧ EndS c H1 D (forM f b (ds.drop i) s1), ⟨ds.length, by simp, Nat.zero_le _, Ext.refl _, s', R', hk⟩, ?_⟩
  rintro i m σ1 H1 ⟨rfl, hi, ex, s1, R1, hk1⟩
  by_cases hlt : i < ds.length
  · refine .inr ⟨hw.go i H1 ex hlt, fun σ2 H2 => i + 1 ≤ ds.length ∧ Ext H' H2 ∧ ∃ s2, RelS c σ2 H2 s2 ∧ EndS c H2 D (forM f b (ds.drop (i + 1)) s2), fun σ2 H2 ⟨q1, q2, q3⟩ => ⟨ds.length - (i + 1), by omega, rfl, q1, q2, q3⟩, fun x H2 hy => ?_⟩
    obtain ⟨ev1, bd, hx⟩ := hw.yld i H1 x H2 ex hy
    have hx := hx ds[i] (List.getElem?_eq_getElem hlt)
    rw [drop_cons' hlt] at hk1
    have R2 : RelS c σ1 H2 s1 := ⟨⟨R1.toRel0.evo0 ev1, bd R1.bnd⟩, R1.evo.trans0 ev1, R1.base, R1.par, R1.osub⟩
    have RX : Rel X.K σ1 H2 s1 := by rw [← k1]; exact R2.toRel
    refine h4 σ1 H2 s1 x ds[i] _ RX (by rw [← k1]; exact hx) ?_
    have hk1 : EndS c H2 D (match f.go ds[i] s1 with
      | none => none
      | some s1 => match b s1 with
        | none => none
        | some (.nx, s2) => forM f b (ds.drop (i + 1)) s2
        | some (.ct, s2) => forM f b (ds.drop (i + 1)) s2
        | some (.bk, s2) => some (.nx, s2)
        | some (o, s2) => some (o, s2)) := hk1.later ev1.ext
    cases e : f.go ds[i] s1 with
    | none => rw [e] at hk1; exact hk1.elim
    | some s3 =>
      rw [e] at hk1
      intro σ3 S3
      have R3 : RelS c σ3 H2 s3 := R2.stored (by rw [k1]; exact S3) (by rw [k4]; exact ho)
      refine h6 c k1 k2 k3 k4 σ3 H2 s3 _ R3 ?_
      have ex3 : Ext H' H2 := ex.trans ev1.ext
      have hk1 : EndS c H2 D (match b s3 with
        | none => none
        | some (.nx, s2) => forM f b (ds.drop (i + 1)) s2
        | some (.ct, s2) => forM f b (ds.drop (i + 1)) s2
        | some (.bk, s2) => some (.nx, s2)
        | some (o, s2) => some (o, s2)) := hk1
      cases e2 : b s3 with
      | none => rw [e2] at hk1; exact hk1.elim
      | some p =>
        obtain ⟨o, s4⟩ := p
        rw [e2] at hk1
        cases o with
        | nx => exact fun σ4 H4 e4 R4 => ⟨hlt, ex3.trans e4, s4, R4, EndS.later (show EndS c H2 D (forM f b (ds.drop (i + 1)) s4) from hk1) e4⟩
        | ct => exact fun σ4 H4 e4 R4 => ⟨hlt, ex3.trans e4, s4, R4, EndS.later (show EndS c H2 D (forM f b (ds.drop (i + 1)) s4) from hk1) e4⟩
        | bk => exact hk1
        | rt r => exact hk1
        | ex k d => exact hk1
  · have e : i = ds.length := by omega
    subst e
    refine .inl ⟨hw.stop H1 ex, ?_⟩
    rw [List.drop_length] at hk1
    exact hk1 σ1 H1 (Ext.refl _) R1
def whileM (m : M Bool) (b : MS) : Nat → MS
  | 0, _ => none
  | n + 1, s => match m s with
    | none => none
    | some (.err k d, s1) => some (.ex k d, s1)
    | some (.ok false, s1) => some (.nx, s1)
    | some (.ok true, s1) => match b s1 with
      | none => none
      | some (.nx, s2) => whileM m b n s2
      | some (.ct, s2) => whileM m b n s2
      | some (.bk, s2) => some (.nx, s2)
      | some (o, s2) => some (o, s2)
theorem ds_while {test : Expr} {body : List Stmt} {m : M Bool} {b : MS} (n : Nat) (hp : PassesOwn (model X.prog X.w) X.A X.env X.xe) (hc : DT X ec E test m) (hb : DSs X ec E ow body b) : DS X ec E ow (.While test body [] pos) (whileM m b n) := by
  obtain ⟨tc, h1, h2⟩ := hc.run
  obtain ⟨t, h3, h4⟩ := hb.run
  refine ⟨_, ps_while hp h1 h3, fun c k1 k2 k3 k4 σ H s D R hm => ?_⟩
  have h2' : Comes c.K c.ec c.E RBl m tc := by rw [k1, k2, k3]; exact h2
  refine ⟨fun n σ H => ∃ s, RelS c σ H s ∧ EndS c H D (whileM m b n s), ⟨n, s, R, hm⟩, ?_⟩
  rintro n σ H ⟨s, R, hm⟩
  cases n with
  | zero => exact hm.elim
  | succ n =>
    have e : whileM m b (n + 1) s = bndS m (fun x s1 => if x = true then (match b s1 with
        | none => none
        | some (.nx, s2) => whileM m b n s2
        | some (.ct, s2) => whileM m b n s2
        | some (.bk, s2) => some (.nx, s2)
        | some (o, s2) => some (o, s2)) else some (.nx, s1)) s := by
      unfold bndS
      show (match m s with
        | none => (none : Option (Flow × DSt))
        | some (.err k d, s1) => some (Flow.ex k d, s1)
        | some (.ok false, s1) => some (Flow.nx, s1)
        | some (.ok true, s1) => match b s1 with
          | none => none
          | some (.nx, s2) => whileM m b n s2
          | some (.ct, s2) => whileM m b n s2
          | some (.bk, s2) => some (.nx, s2)
          | some (o, s2) => some (o, s2)) = _
      cases m s with
      | none => rfl
      | some p =>
        obtain ⟨q, s1⟩ := p
        cases q with
        | err k d => rfl
        | ok x => cases x <;> rfl
    rw [e] at hm
    refine useE h2' R hm fun x s1 H1 g ev sb R1 hg hk => ?_
    have hg : g = x := hg
    subst hg
    cases g with
    | false => exact hk σ H1 (Ext.refl _) R1
    | true =>
      have hk : EndS c H1 D (match b s1 with
        | none => none
        | some (.nx, s2) => whileM m b n s2
        | some (.ct, s2) => whileM m b n s2
        | some (.bk, s2) => some (.nx, s2)
        | some (o, s2) => some (o, s2)) := hk
      refine ⟨fun σ2 H2 => ∃ s2, RelS c σ2 H2 s2 ∧ EndS c H2 D (whileM m b n s2), fun σ2 H2 q => ⟨n, Nat.lt_succ_self n, q⟩, ?_⟩
      refine h4 c k1 k2 k3 k4 σ H1 s1 _ R1 ?_
      cases e2 : b s1 with
      | none => rw [e2] at hk; exact hk.elim
      | some p =>
        obtain ⟨o, s4⟩ := p
        rw [e2] at hk
        cases o with
        | nx => exact fun σ4 H4 e4 R4 => ⟨s4, R4, EndS.later (show EndS c H1 D (whileM m b n s4) from hk) e4⟩
        | ct => exact fun σ4 H4 e4 R4 => ⟨s4, R4, EndS.later (show EndS c H1 D (whileM m b n s4) from hk) e4⟩
        | bk => exact hk
        | rt r => exact hk
        | ex k d => exact hk
end
end Dt

end
section
set_option maxRecDepth 100000
set_option autoImplicit false
namespace Dt
open PySem PySem.Spec PyProof.Rows L2

mutual
def DK.toD : DK → D
  | .int i => .int i
  | .str x => .str x
  | .tup ks => .tup (DK.toDs ks)
def DK.toDs : List DK → List D
  | [] => []
  | k :: ks => k.toD :: DK.toDs ks
end
theorem at_key {K : PySem.W.Frag} {H : Hp} (k : Key) : At K H (ofKey k).toD (kV k) := by
  cases k <;> rfl
theorem at_keys {K : PySem.W.Frag} {H : Hp} : ∀ ks : List Key, AtAll K H (DK.toDs (ks.map ofKey)) (ks.map kV)
  | [] => .nil
  | k :: ks => .cons (at_key k) (at_keys ks)

/-! ### what is walked -/
section
variable {X : Cx} {ec : EC} {E : L2.WX} {tg a b c e : Expr} {es : List Expr} {pos : Pos}
theorem pi_bnd {w : TI} (h : PI X tg e w) : PI X tg e (fun σ H R => w σ H fun J H' => Bounded X.K H' → R J H') := by
  refine ⟨fun pins s σ H R I hq => ?_⟩
  refine thn (h.run pins s σ H _ I hq) fun v s1 h1 => thn h1 fun itv s2 h2 => ?_
  obtain ⟨it, fp, tn, J, H', e, I', T, st, f, q⟩ := h2
  exact ⟨it, fp, tn, J, H', e, I', T, st, f, q (bounded_of I')⟩
theorem DI.mk0 {m : M (List D)} {w : TI} (h : PI X tg e w) (hc : Comes0 X.K ec E (RWk X.K) m w) : DI X ec E tg e m := ⟨_, pi_bnd h, hc.to⟩
/-- a list or a tuple as it stands; a dict's keys; a text's signs -/
def seqD : D → Option (List D)
  | .lst ds => some ds
  | .tup ds => some ds
  | .scr ns => some (ns.map .int)
  | .dic _ kvs => some (kvs.map fun p => p.1.toD)
  | .str x => if x.cps.size ≤ sizeLine then some (x.cps.toList.map fun c => .str ⟨#[c]⟩) else none
  | _ => none
def iAny (K : PySem.W.Frag) (te : TE) : TI := fun σ H R => te σ H fun x H1 => (∃ a, x = .ref a ∧ (∃ xs, SqL K H1 a xs) ∧ R (Itl K a) H1) ∨ (∃ a, x = .ref a ∧ (∃ xs, SqT K H1 a xs) ∧ R (Itt K a) H1) ∨
  (∃ d o, x = .ref d ∧ ((∃ kvs, H1 d = some (.frz o (.dK kvs)) ∧ R (Itk d o kvs) H1) ∨ ∃ kvs, H1 d = some (.frz o (.dT kvs)) ∧ R (Itkt d o kvs) H1)) ∨ ∃ z, x = .str z ∧ R (Its z) H1
theorem pi_any {te : TE} (he : PE X e te) : PI X tg e (iAny X.K te) := by
  refine ⟨fun pins s σ H R I h => ?_⟩
  refine thn (he.run pins s σ H _ I h) fun v s1 ⟨x, H1, I1, r1, q1⟩ => ?_
  rcases q1 with ⟨a, e, ⟨xs, hq⟩, q⟩ | ⟨a, e, ⟨xs, hq⟩, q⟩ | ⟨d, o, e, q⟩ | ⟨z, e, q⟩
  · subst e
    cases r1
    obtain ⟨its, rv, p, hz⟩ := I1.list hq
    refine wpAny_pyIter_list p.isList ?_
    refine ⟨s1.heap.objs.size, [s1.heap.objs.size], _, _, H1, rfl, I1.kept (t' := s1.toks) fun b o e => Heap.get?_push_of_some _ e, turn_list a _, ⟨_, Heap.get?_push_size _ rfl, rfl, rfl⟩, fun b hb => ?_, q⟩
    have e : b = s1.heap.objs.size := by simpa using hb
    subst e
    exact I1.fpOk (Nat.le_refl _) (I1.hok.fresh (Nat.le_refl _))
  · subst e
    cases r1
    obtain ⟨its, rv, p, hz⟩ := I1.tuple hq
    refine wpAny_pyIter_tuple (show s1.heap.IsTuple a its.toArray from p) ?_
    refine ⟨s1.heap.objs.size, [s1.heap.objs.size], _, _, H1, rfl, I1.kept (t' := s1.toks) fun b o e => Heap.get?_push_of_some _ e, turn_tuple a _, ⟨_, Heap.get?_push_size _ rfl, rfl, rfl⟩, fun b hb => ?_, q⟩
    have e : b = s1.heap.objs.size := by simpa using hb
    subst e
    exact I1.fpOk (Nat.le_refl _) (I1.hok.fresh (Nat.le_refl _))
  · subst e
    cases r1
    rcases q with ⟨kvs, hd, q⟩ | ⟨kvs, hd, q⟩
    · obtain ⟨hs, hgd, hx, es, ep, vs, hdt, hsz, kv, hm⟩ := I1.frzK hd
      refine iter_keys hs hgd hx hdt (pi_one (tk := s1.toks) I1 _ (turn_keys _ hdt) ⟨_, Heap.get?_push_size _ rfl, rfl, ?_⟩ q)
      rw [hsz] <;> rfl
    · obtain ⟨hs, hgd, hx, es, ep, hdt, hsz, ent⟩ := I1.frzT hd
      refine iter_keys hs hgd hx hdt (pi_one (tk := s1.toks) I1 _ (turn_keysT _ hdt) ⟨_, Heap.get?_push_size _ rfl, rfl, ?_⟩ q)
      rw [hsz] <;> rfl
  · subst e
    obtain ⟨t, rfl⟩ := r1
    cases ha : z.cps.all (· < 128)
    · exact wpAny_pyIter_wide ha (pi_one (tk := s1.toks) I1 _ (turn_str _ z t "str_iterator" (.inr rfl)) ⟨_, Heap.get?_push_size _ rfl, rfl, rfl⟩ q)
    · exact wpAny_pyIter_ascii ha (pi_one (tk := s1.toks) I1 _ (turn_str _ z t "str_ascii_iterator" (.inl rfl)) ⟨_, Heap.get?_push_size _ rfl, rfl, rfl⟩ q)
theorem Walks.list {K : PySem.W.Frag} {H : Hp} {a : Addr} {xs : List V} {ds : List D} (h : SqF H a xs) (q : AtAll K H ds xs) (b : Bounded K H) : Walks K (Itl K a) ds H where
  go := fun i H1 e hi => by
    obtain ⟨x, hx, _⟩ := q.get (List.getElem?_eq_getElem hi)
    exact ⟨xs, x, (h.ext e).sql, hx⟩
  yld := fun i H1 x H2 e ⟨e2, hx⟩ => by
    subst e2
    refine ⟨.refl, fun z => z, fun d hd => ?_⟩
    obtain ⟨y, hy, hat⟩ := (AtAll.ext e _ _ q).get hd
    rw [hx xs (h.ext e).sql] at hy
    cases hy
    exact hat
  stop := fun H1 e => ⟨xs, (h.ext e).sql, by rw [q.len]; exact Nat.le_refl _⟩
  line := by rw [← q.len]; exact b.seq a xs (.inl h.sql)
theorem Walks.scr {K : PySem.W.Frag} {H : Hp} {a : Addr} {ns : List Int} (h : SqS K H a (ns.map V.int)) (b : Bounded K H) : Walks K (Itl K a) (ns.map D.int) H where
  go := fun i H1 e hi => by
    obtain ⟨x, hx, _⟩ := (at_ints (K := K) (H := H) ns).get (List.getElem?_eq_getElem hi)
    exact ⟨_, x, (h.ext e).sql, hx⟩
  yld := fun i H1 x H2 e ⟨e2, hx⟩ => by
    subst e2
    refine ⟨.refl, fun z => z, fun d hd => ?_⟩
    obtain ⟨y, hy, hat⟩ := (at_ints (K := K) (H := H2) ns).get hd
    rw [hx _ (h.ext e).sql] at hy
    cases hy
    exact hat
  stop := fun H1 e => ⟨_, (h.ext e).sql, by rw [List.length_map, List.length_map]; exact Nat.le_refl _⟩
  line := by have := b.seq a _ (.inl h.sql); rw [List.length_map] at this ⊢; exact this
theorem Walks.tup {K : PySem.W.Frag} {H : Hp} {a : Addr} {xs : List V} {ds : List D} (h : SqT K H a xs) (q : AtAll K H ds xs) (b : Bounded K H) : Walks K (Itt K a) ds H where
  go := fun i H1 e hi => by
    obtain ⟨x, hx, _⟩ := q.get (List.getElem?_eq_getElem hi)
    exact ⟨xs, x, SqT.ext h e, hx⟩
  yld := fun i H1 x H2 e ⟨e2, hx⟩ => by
    subst e2
    refine ⟨.refl, fun z => z, fun d hd => ?_⟩
    obtain ⟨y, hy, hat⟩ := (AtAll.ext e _ _ q).get hd
    rw [hx xs (SqT.ext h e)] at hy
    cases hy
    exact hat
  stop := fun H1 e => ⟨xs, SqT.ext h e, by rw [q.len]; exact Nat.le_refl _⟩
  line := by rw [← q.len]; exact b.seq a xs (.inr h)
theorem AtK.keys {K : PySem.W.Frag} {H : Hp} : ∀ {kvs : List (DK × D)} {es : List (Key × V)} {i : Nat} {k : Key} {v : V}, AtK K H kvs es → es[i]? = some (k, v) → ∃ d, kvs[i]? = some (ofKey k, d) ∧ At K H d v
  | [], _, i, k, v, h, e => by rw [h.inv0] at e; simp at e
  | (j, d) :: r, _, 0, k, v, h, e => by
    obtain ⟨k', x, r', rfl, rfl, h1, h2⟩ := h.inv
    simp at e
    obtain ⟨rfl, rfl⟩ := e
    exact ⟨d, rfl, h1⟩
  | (j, d) :: r, _, i + 1, k, v, h, e => by
    obtain ⟨k', x, r', rfl, rfl, h1, h2⟩ := h.inv
    obtain ⟨d', a1, a2⟩ := h2.keys (i := i) (by simpa using e)
    exact ⟨d', by simpa using a1, a2⟩
theorem AtT.keys {K : PySem.W.Frag} {H : Hp} : ∀ {kvs : List (DK × D)} {es : List (List Key × V)} {i : Nat} {k : List Key} {v : V}, AtT K H kvs es → es[i]? = some (k, v) → ∃ d, kvs[i]? = some (ofKeys k, d) ∧ At K H d v ∧ k ≠ []
  | [], _, i, k, v, h, e => by rw [h.inv0] at e; simp at e
  | (j, d) :: r, _, 0, k, v, h, e => by
    obtain ⟨k', x, r', rfl, rfl, h1, h2⟩ := h.inv
    simp at e
    obtain ⟨rfl, rfl⟩ := e
    exact ⟨d, rfl, h1, h.ne⟩
  | (j, d) :: r, _, i + 1, k, v, h, e => by
    obtain ⟨k', x, r', rfl, rfl, h1, h2⟩ := h.inv
    obtain ⟨d', a1, a2⟩ := h2.keys (i := i) (by simpa using e)
    exact ⟨d', by simpa using a1, a2⟩
theorem Walks.keysK {K : PySem.W.Frag} {H : Hp} {a : Addr} {o : Obj} {es : List (Key × V)} {kvs : List (DK × D)} (h : H a = some (.frz o (.dK es))) (q : AtK K H kvs es) (b : Bounded K H) : Walks K (Itk a o es) (kvs.map fun p => p.1.toD) H where
  go := fun i H1 e hi => ⟨e.frz _ _ _ h, by rw [q.len]; simpa using hi⟩
  yld := fun i H1 x H2 e ⟨e2, k, v, hk, hx⟩ => by
    subst e2 hx
    refine ⟨.refl, fun z => z, fun d hd => ?_⟩
    obtain ⟨d', a1, _⟩ := q.keys hk
    rw [List.getElem?_map, a1] at hd
    cases hd
    exact at_key k
  stop := fun H1 e => ⟨e.frz _ _ _ h, by rw [q.len, List.length_map]; exact Nat.le_refl _⟩
  line := by rw [List.length_map, ← q.len]; exact (b.dK a es (.inr ⟨o, h⟩)).1
theorem key_at {K : PySem.W.Frag} {H : Hp} {q : Addr} {k : List Key} (h : H q = some (.tup (k.map kV))) (hk : k ≠ []) : At K H (ofKeys k).toD (.ref q) := by
  show At K H (.tup (DK.toDs (k.map ofKey))) (.ref q)
  unfold At
  refine ⟨q, _, rfl, ⟨.inl (.inl h), fun _ => h, fun z => ?_⟩, at_keys k⟩
  cases k with
  | nil => exact absurd rfl hk
  | cons c r => cases c <;> cases z
theorem Walks.keysT {K : PySem.W.Frag} {H : Hp} {a : Addr} {o : Obj} {es : List (List Key × V)} {kvs : List (DK × D)} (h : H a = some (.frz o (.dT es))) (q : AtT K H kvs es) (b : Bounded K H) : Walks K (Itkt a o es) (kvs.map fun p => p.1.toD) H where
  go := fun i H1 e hi => ⟨e.frz _ _ _ h, by rw [q.len]; simpa using hi⟩
  yld := fun i H1 x H2 e ⟨e2, k, v, p, hk, hx, hp⟩ => by
    subst e2 hx
    refine ⟨.refl, fun z => z, fun d hd => ?_⟩
    obtain ⟨d', a1, _, nk⟩ := q.keys hk
    rw [List.getElem?_map, a1] at hd
    cases hd
    exact key_at hp nk
  stop := fun H1 e => ⟨e.frz _ _ _ h, by rw [q.len, List.length_map]; exact Nat.le_refl _⟩
  line := by rw [List.length_map, ← q.len]; exact (b.dT a es (.inr ⟨o, h⟩)).1
theorem Walks.signs {K : PySem.W.Frag} {H : Hp} {z : Str} (hl : z.cps.size ≤ sizeLine) : Walks K (Its z) (z.cps.toList.map fun c => .str ⟨#[c]⟩) H where
  go := fun i H1 e hi => by
    show i < z.cps.size
    simpa using hi
  yld := fun i H1 x H2 e ⟨e2, c, hc, hx⟩ => by
    subst e2 hx
    refine ⟨.refl, fun z => z, fun d hd => ?_⟩
    rw [List.getElem?_map, Array.getElem?_toList, hc] at hd
    cases hd
    rfl
  stop := fun H1 e => by show z.cps.size ≤ _; simp
  line := by simpa using hl
def iterV (m : M D) : M (List D) := bnd m fun d => lift (seqD d)
theorem di_any {m : M D} (h : DV X ec E e m) : DI X ec E tg e (iterV m) := by
  obtain ⟨t, h1, h2⟩ := h.run
  refine DI.mk0 (pi_any h1) fun σ H s Q hR hm => ?_
  refine h2 σ H s _ hR (hm.bnd.imp fun d s1 H1 _ e1 R1 S1 hk v hv => ?_)
  obtain ⟨ds, hd, hk⟩ := hk.lift
  have fin : ∀ J, Walks X.K J ds H1 → Q J H1 := fun J w => hk H1 .refl R1.toRel0 J w
  cases d with
  | lst ds =>
    cases hd
    unfold At at hv
    obtain ⟨a, xs, rfl, h3, h4⟩ := hv
    exact .inl ⟨a, rfl, ⟨xs, h3.sql⟩, fin _ (.list h3 h4 R1.bnd)⟩
  | scr ns =>
    cases hd
    obtain ⟨a, rfl, h3⟩ := (At.ct hv).scr
    exact .inl ⟨a, rfl, ⟨_, h3.sql⟩, fin _ (.scr h3 R1.bnd)⟩
  | tup ds =>
    cases hd
    obtain ⟨a, xs, rfl, h3, h4⟩ := (At.ct hv).tup
    exact .inr (.inl ⟨a, rfl, ⟨xs, h3⟩, fin _ (.tup h3 h4 R1.bnd)⟩)
  | dic t kvs =>
    cases hd
    cases t with
    | false =>
      unfold At at hv
      obtain ⟨a, o, rfl, es, h3, h4⟩ := hv
      exact .inr (.inr (.inl ⟨a, o, rfl, .inl ⟨es, h3, fin _ (.keysK h3 h4 R1.bnd)⟩⟩))
    | true =>
      unfold At at hv
      obtain ⟨a, o, rfl, es, h3, h4⟩ := hv
      exact .inr (.inr (.inl ⟨a, o, rfl, .inr ⟨es, h3, fin _ (.keysT h3 h4 R1.bnd)⟩⟩))
  | str x =>
    have hd : (if x.cps.size ≤ sizeLine then some (x.cps.toList.map fun c => D.str ⟨#[c]⟩) else none) = some ds := hd
    split at hd
    · rename_i hz
      cases hd
      have hv := (At.ct hv).str
      exact .inr (.inr (.inr ⟨_, hv, fin _ (.signs hz)⟩))
    · cases hd
  | _ => cases hd
/-- range(n), range(a, b) -/
def rangeD (lo : Int) : Nat → List D
  | 0 => []
  | n + 1 => .int lo :: rangeD (lo + 1) n
theorem rangeD_len : ∀ (n : Nat) (lo : Int), (rangeD lo n).length = n
  | 0, _ => rfl
  | n + 1, lo => by simp [rangeD, rangeD_len n]
theorem rangeD_get : ∀ (n : Nat) (lo : Int) (i : Nat), i < n → (rangeD lo n)[i]? = some (.int (lo + i))
  | 0, _, _, h => absurd h (Nat.not_lt_zero _)
  | n + 1, lo, 0, _ => by simp [rangeD]
  | n + 1, lo, i + 1, h => by
    have := rangeD_get n (lo + 1) i (by omega)
    simp only [rangeD, List.getElem?_cons_succ, this]
    congr 2
    omega
theorem Walks.range {K : PySem.W.Frag} {H : Hp} {lo : Int} {n : Nat} (hl : n ≤ sizeLine) : Walks K (Itr lo n) (rangeD lo n) H where
  go := fun i H1 e hi => by rw [rangeD_len] at hi; exact hi
  yld := fun i H1 x H2 e ⟨e2, hx⟩ => by
    subst e2 hx
    refine ⟨.refl, fun z => z, fun d hd => ?_⟩
    have hi : i < n := by
      have := (List.getElem?_eq_some_iff.mp hd).1
      rw [rangeD_len] at this
      exact this
    rw [rangeD_get n lo i hi] at hd
    cases hd
    rfl
  stop := fun H1 e => by show n ≤ _; rw [rangeD_len]; exact Nat.le_refl _
  line := by rw [rangeD_len]; exact hl
def rng1 : List D → Option (List D)
  | [.int j] => if -(2 ^ 60) ≤ j ∧ j ≤ 1000000 then some (rangeD 0 j.toNat) else none
  | _ => none
def rng2 : List D → Option (List D)
  | [.int i, .int j] => if -(2 ^ 60) ≤ i ∧ i < 2 ^ 60 ∧ -(2 ^ 60) ≤ j ∧ j - i ≤ 1000000 then some (rangeD i (j - i).toNat) else none
  | _ => none
def callI (g : List D → Option (List D)) (os : List Opd) : M (List D) := bnd (starts os) fun xs => bnd (reads os xs) fun ds => lift (g ds)
theorem ctAll1 {K : PySem.W.Frag} {H : Hp} {vs : List V} {d : D} (h : CtAll K H vs [d]) : ∃ v, vs = [v] ∧ Ct K H v d := by
  cases vs with
  | nil => exact h.elim
  | cons v r =>
    cases r with
    | nil => exact ⟨v, rfl, h.1⟩
    | cons _ _ => exact h.2.elim
theorem ctAll2 {K : PySem.W.Frag} {H : Hp} {vs : List V} {d e : D} (h : CtAll K H vs [d, e]) : ∃ v w, vs = [v, w] ∧ Ct K H v d ∧ Ct K H w e := by
  cases vs with
  | nil => exact h.elim
  | cons v r =>
    obtain ⟨w, rfl, h2⟩ := ctAll1 h.2
    exact ⟨v, w, rfl, h.1, h2⟩
theorem ctAll3 {K : PySem.W.Frag} {H : Hp} {vs : List V} {d e f : D} (h : CtAll K H vs [d, e, f]) : ∃ v w x, vs = [v, w, x] ∧ Ct K H v d ∧ Ct K H w e ∧ Ct K H x f := by
  cases vs with
  | nil => exact h.elim
  | cons v r =>
    obtain ⟨w, x, rfl, h2, h3⟩ := ctAll2 h.2
    exact ⟨v, w, x, rfl, h.1, h2, h3⟩
theorem di_range1 {os : List Opd} {p : Pos} (hg : Gl X "range") (hm : X.mg "range" = none) (ha : DOs X ec E [a] os) (hs : starEach [a] X.env = [(false, eval a X.env)]) : DI X ec E tg (.Call (.Name "range" p) [a] [] pos) (callI rng1 os) := by
  obtain ⟨t, h1, h2⟩ := ha.run
  refine DI.mk0 (pi_range1 hg hm h1 hs) fun σ H s Q hR hm => ?_
  refine h2 σ H s _ hR (hm.bnd.imp fun xs s1 H1 _ e1 R1 S1 hk vs hvs => ?_)
  obtain ⟨cs, cd, hk⟩ := hk.reads R1.toRel0 hvs
  obtain ⟨r, hr, hk⟩ := hk.lift
  unfold rng1 at hr
  split at hr
  · split at hr
    · rename_i j q
      cases hr
      obtain ⟨v, rfl, cv⟩ := ctAll1 cd
      cases cv.int
      exact ⟨j, rfl, by omega, by omega, hk H1 .refl R1.toRel0 _ (.range (by rw [sizeLine_eq]; omega))⟩
    · cases hr
  · cases hr
theorem di_range2 {os : List Opd} {p : Pos} (hg : Gl X "range") (hm : X.mg "range" = none) (ha : DOs X ec E [a, b] os) (hs : starEach [a, b] X.env = [(false, eval a X.env), (false, eval b X.env)]) (hs2 : starEach [b] X.env = [(false, eval b X.env)]) : DI X ec E tg (.Call (.Name "range" p) [a, b] [] pos) (callI rng2 os) := by
  obtain ⟨t, h1, h2⟩ := ha.run
  refine DI.mk0 (pi_range2 hg hm h1 hs hs2) fun σ H s Q hR hm => ?_
  refine h2 σ H s _ hR (hm.bnd.imp fun xs s1 H1 _ e1 R1 S1 hk vs hvs => ?_)
  obtain ⟨cs, cd, hk⟩ := hk.reads R1.toRel0 hvs
  obtain ⟨r, hr, hk⟩ := hk.lift
  unfold rng2 at hr
  split at hr
  · split at hr
    · rename_i i j q
      cases hr
      obtain ⟨v, w, rfl, cv, cw⟩ := ctAll2 cd
      cases cv.int
      cases cw.int
      exact ⟨i, j, rfl, ⟨by omega, by omega, by omega, by omega⟩, hk H1 .refl R1.toRel0 _ (.range (by rw [sizeLine_eq]; omega))⟩
    · cases hr
  · cases hr
end
end Dt

end
section
set_option maxRecDepth 100000
set_option autoImplicit false
namespace Dt
open PySem PySem.Spec PyProof.Rows L2

/-! ### comprehensions -/
def wipeD (s : DSt) : List Nat → DSt
  | [] => s
  | v :: vs => (wipeD s vs).set v none
theorem wipeD_len (s : DSt) : ∀ vs : List Nat, (wipeD s vs).length = s.length
  | [] => rfl
  | v :: vs => by unfold wipeD; rw [List.length_set, wipeD_len s vs]
theorem wipeD_out {s : DSt} {i : Nat} : ∀ {vs : List Nat}, i ∉ vs → (wipeD s vs)[i]? = s[i]?
  | [], _ => rfl
  | v :: vs, h => by
    have h1 : v ≠ i := fun e => h (by simp [e])
    have h2 : i ∉ vs := fun e => h (by simp [e])
    unfold wipeD
    rw [List.getElem?_set_ne h1, wipeD_out h2]
theorem wipeD_in {s : DSt} {i : Nat} : ∀ {vs : List Nat}, i ∈ vs → ∀ r, (wipeD s vs)[i]? ≠ some (some r)
  | [], h, _ => by cases h
  | v :: vs, h, r => by
    unfold wipeD
    by_cases e : v = i
    · subst e
      intro q
      by_cases hl : v < (wipeD s vs).length
      · rw [List.getElem?_set_self hl] at q; cases q
      · rw [List.getElem?_eq_none (by simpa using hl)] at q; cases q
    · rw [List.getElem?_set_ne e]
      have h2 : i ∈ vs := by
        rcases List.mem_cons.mp h with z | z
        · exact absurd z.symm e
        · exact z
      exact wipeD_in h2 r
theorem wipeD_some {s : DSt} {i : Nat} {r : RV} {vs : List Nat} (h : (wipeD s vs)[i]? = some (some r)) : i ∉ vs ∧ s[i]? = some (some r) := by
  have hn : i ∉ vs := fun z => wipeD_in z r h
  rw [wipeD_out hn] at h
  exact ⟨hn, h⟩
theorem wipe_at {σ : Sl} {vs : List Nat} {i : Nat} (h : i ∉ vs) : (wipe σ vs)[i]? = σ[i]? := wipe_out h
section
variable {K : PySem.W.Frag} {σ σ2 : Sl} {H H' : Hp} {s : DSt} {vs : List Nat}
/-- what holds elsewhere holds of the wiped state -/
theorem Rel.wiped (R : Rel K σ2 H s) (hl : σ.length = σ2.length) (h : ∀ i, i ∉ vs → σ[i]? = σ2[i]?) : Rel K σ H (wipeD s vs) := by
  refine ⟨⟨by rw [wipeD_len, hl]; exact R.len, fun i r e => ?_, fun i j r q a h1 h2 o1 o2 h3 h4 => ?_⟩, R.bnd⟩
  · obtain ⟨n, e⟩ := wipeD_some e
    rw [h i n]
    exact R.ok i r e
  · obtain ⟨n1, h1⟩ := wipeD_some h1
    obtain ⟨n2, h2⟩ := wipeD_some h2
    rw [h i n1] at h3
    rw [h j n2] at h4
    exact R.sep i j r q a h1 h2 o1 o2 h3 h4
theorem Sub.wiped (s : DSt) (vs : List Nat) : Sub s (wipeD s vs) := fun i r h o => ⟨r, (wipeD_some h).2, o⟩
theorem own_wiped (h : ∀ i, i ∉ vs → σ2[i]? = σ[i]?) {a : Addr} (q : OwnsA σ2 (wipeD s vs) a) : OwnsA σ s a := by
  obtain ⟨i, r, h1, h2, h3⟩ := q
  obtain ⟨n, h1⟩ := wipeD_some h1
  rw [h i n] at h3
  exact ⟨i, r, h1, h2, h3⟩
theorem Stored.owns {is : List Nat} {σ' : Sl} {s' : DSt} (S : Stored K is σ σ' H s s') {a : Addr} (q : OwnsA σ' s' a) : OwnsA σ s a := by
  obtain ⟨i, r, h1, h2, h3⟩ := q
  by_cases e : i ∈ is
  · obtain ⟨a1, a2⟩ := S.val i r e h1 h2
    exact ⟨i, r, a1, h2, a2 ▸ h3⟩
  · rw [S.st i e] at h1
    rw [S.at_ i e] at h3
    exact ⟨i, r, h1, h2, h3⟩
theorem Stored.sub {is : List Nat} {σ' : Sl} {s' : DSt} (S : Stored K is σ σ' H s s') : Sub s s' := fun i r h o => by
  by_cases e : i ∈ is
  · exact ⟨r, (S.val i r e h o).1, o⟩
  · rw [S.st i e] at h
    exact ⟨r, h, o⟩
/-- a list longer by one -/
theorem Bounded.setLst {D : Addr} {xs ys : List V} (b : Bounded K H) (hD : H D = some (.lst xs)) (hl : ys.length ≤ sizeLine) : Bounded K (upd H D (.lst ys)) := by
  have rd : ∀ {a : Addr} {u : HO}, Rd (upd H D (.lst ys)) a u → (a = D ∧ u = .lst ys) ∨ Rd H a u := fun {a u} h => by
    by_cases e : a = D
    · subst e
      rcases h with h | ⟨o, h⟩
      · rw [upd_same] at h; cases h; exact .inl ⟨rfl, rfl⟩
      · rw [upd_same] at h; cases h
    · rcases h with h | ⟨o, h⟩
      · rw [upd_ne e] at h; exact .inr (.inl h)
      · rw [upd_ne e] at h; exact .inr (.inr ⟨o, h⟩)
  refine ⟨fun a zs h => ?_, fun a es h => ?_, fun a es h => ?_⟩
  · rcases h with (h | h) | (h | h)
    · rcases rd h with ⟨_, e⟩ | h
      · cases e; exact hl
      · exact b.seq a zs (.inl (.inl h))
    · exact b.seq a zs (.inl (.inr h))
    · rcases rd h with ⟨_, e⟩ | h
      · cases e
      · exact b.seq a zs (.inr (.inl h))
    · exact b.seq a zs (.inr (.inr h))
  · rcases rd h with ⟨_, e⟩ | h
    · cases e
    · exact b.dK a es h
  · rcases rd h with ⟨_, e⟩ | h
    · cases e
    · exact b.dT a es h
/-- a new list -/
theorem Bounded.newLst {D : Addr} {ys : List V} (b : Bounded K H) (hl : ys.length ≤ sizeLine) : Bounded K (upd H D (.lst ys)) := by
  have rd : ∀ {a : Addr} {u : HO}, Rd (upd H D (.lst ys)) a u → (a = D ∧ u = .lst ys) ∨ Rd H a u := fun {a u} h => by
    by_cases e : a = D
    · subst e
      rcases h with h | ⟨o, h⟩
      · rw [upd_same] at h; cases h; exact .inl ⟨rfl, rfl⟩
      · rw [upd_same] at h; cases h
    · rcases h with h | ⟨o, h⟩
      · rw [upd_ne e] at h; exact .inr (.inl h)
      · rw [upd_ne e] at h; exact .inr (.inr ⟨o, h⟩)
  refine ⟨fun a zs h => ?_, fun a es h => ?_, fun a es h => ?_⟩
  · rcases h with (h | h) | (h | h)
    · rcases rd h with ⟨_, e⟩ | h
      · cases e; exact hl
      · exact b.seq a zs (.inl (.inl h))
    · exact b.seq a zs (.inl (.inr h))
    · rcases rd h with ⟨_, e⟩ | h
      · cases e
      · exact b.seq a zs (.inr (.inl h))
    · exact b.seq a zs (.inr (.inr h))
  · rcases rd h with ⟨_, e⟩ | h
    · cases e
    · exact b.dK a es h
  · rcases rd h with ⟨_, e⟩ | h
    · cases e
    · exact b.dT a es h
end

def lcGo (vs : List Nat) (f : Tg) (t : M Bool) (el : M D) : List D → M (List D)
  | [], s => some (.ok [], s)
  | d :: ds, s => match f.go d s with
    | none => none
    | some s1 => match t s1 with
      | some (.ok false, s2) => lcGo vs f t el ds (wipeD s2 vs)
      | some (.ok true, s2) => match el s2 with
        | some (.ok y, s3) => match lcGo vs f t el ds (wipeD s3 vs) with
          | some (.ok ys, s4) => some (.ok (y :: ys), s4)
          | _ => none
        | _ => none
      | _ => none
def lcM (vs : List Nat) (f : Tg) (mi : M (List D)) (t : M Bool) (el : M D) : M RV := bnd mi fun ds s => match lcGo vs f t el ds (wipeD s vs) with
  | some (.ok ys, s') => some (.ok (.own (.lst ys)), s')
  | _ => none

section
variable {X : Cx} {ec : EC} {E : L2.WX} {e tg elt iter : Expr} {es ifs : List Expr} {pos : Pos}
theorem PE.weak {t t' : TE} (h : PE X e t) (i : ∀ σ H Q, t' σ H Q → t σ H Q) : PE X e t' := ⟨fun pins s σ H Q I hq => h.run pins s σ H Q I (i _ _ _ hq)⟩
theorem PG.weak {t t' : TG} (h : PG X e t) (i : ∀ v σ H Q, t' v σ H Q → t v σ H Q) : PG X e t' := ⟨fun pins s σ H v u Q I r hq => h.run pins s σ H v u Q I r (i _ _ _ _ hq)⟩
structure DTs (X : Cx) (ec : EC) (E : L2.WX) (es : List Expr) (m : M Bool) : Prop where
  run : ∃ t, PTs X es t ∧ Comes X.K ec E RBl m t
theorem PTs.weak {t t' : TT} (h : PTs X es t) (i : ∀ σ H Q, t' σ H Q → t σ H Q) : PTs X es t' := ⟨fun pins s σ H Q I hq => h.run pins s σ H Q I (i _ _ _ hq)⟩
theorem dts_nil : DTs X ec E [] (ret true) := ⟨_, pts_nil, fun σ H s Q hR hm => Post.retq hR hm _ rfl⟩
theorem dts_one {m : M Bool} (h : DT X ec E e m) : DTs X ec E [e] m := by
  obtain ⟨t, h1, h2⟩ := h.run
  exact ⟨t, pts_one h1, h2⟩
/-- the contexts of a block -/
abbrev Blk (X : Cx) (scope : Scope) (P : Cx → Prop) : Prop := ∀ (s : Shared) (H : Hp) (C : Addr) (cl : List (Str × Addr)) (fp : List Addr), P (X.blk s H scope (compEnvC scope cl C X.env) fp)
theorem uniV {scope : Scope} {m : M D} (h : Blk X scope fun Y => DV Y ec E e m) : ∃ t, (Blk X scope fun Y => PE Y e t) ∧ Comes X.K ec E (RVal X.K) m t := by
  refine ⟨fun σ H Q => ∀ s H' C cl fp, (h s H' C cl fp).run.choose σ H Q, fun s H' C cl fp => PE.weak (h s H' C cl fp).run.choose_spec.1 fun σ H Q z => z s H' C cl fp, fun σ H s Q hR hm s' H' C cl fp => ?_⟩
  exact (h s' H' C cl fp).run.choose_spec.2 σ H s Q hR hm
theorem uniT {scope : Scope} {m : M Bool} (h : Blk X scope fun Y => DTs Y ec E es m) : ∃ t, (Blk X scope fun Y => PTs Y es t) ∧ Comes X.K ec E RBl m t := by
  refine ⟨fun σ H Q => ∀ s H' C cl fp, (h s H' C cl fp).run.choose σ H Q, fun s H' C cl fp => PTs.weak (h s H' C cl fp).run.choose_spec.1 fun σ H Q z => z s H' C cl fp, fun σ H s Q hR hm s' H' C cl fp => ?_⟩
  exact (h s' H' C cl fp).run.choose_spec.2 σ H s Q hR hm
theorem uniG {scope : Scope} {f : Tg} (h : Blk X scope fun Y => DTg Y tg f) : ∃ g, (Blk X scope fun Y => PG Y tg g) ∧ ∀ σ H s v d Q, Rel X.K σ H s → At X.K H d v → (match f.go d s with
    | none => False
    | some s' => ∀ σ', Stored X.K f.slots σ σ' H s s' → Q σ' H) → g v σ H Q := by
  refine ⟨fun v σ H Q => ∀ s H' C cl fp, (h s H' C cl fp).run.choose v σ H Q, fun s H' C cl fp => PG.weak (h s H' C cl fp).run.choose_spec.1 fun v σ H Q z => z s H' C cl fp, fun σ H s v d Q hR hv hm s' H' C cl fp => ?_⟩
  exact (h s' H' C cl fp).run.choose_spec.2 σ H s v d Q hR hv hm
theorem wipe_id {σ σ' : Sl} {vs : List Nat} (hl : σ'.length = (wipe σ vs).length) (h : ∀ j, j ∉ vs → σ'[j]? = (wipe σ vs)[j]?) : wipe σ' vs = wipe σ vs := by
  refine List.ext_getElem? fun j => ?_
  by_cases q : j ∈ vs
  · have z : ∀ (τ : Sl) (ws : List Nat), j ∈ ws → j < τ.length → (wipe τ ws)[j]? = some none := by
      intro τ ws
      induction ws with
      | nil => intro h; cases h
      | cons w ws ih =>
        intro h hj
        unfold wipe
        by_cases e : w = j
        · subst e
          rw [List.getElem?_set_self (by rw [wipe_length]; exact hj)]
        · rw [List.getElem?_set_ne e]
          refine ih ?_ hj
          rcases List.mem_cons.mp h with z | z
          · exact absurd z.symm e
          · exact z
    rw [wipe_length] at hl
    by_cases hj : j < σ.length
    · rw [z σ' vs q (by omega), z σ vs q hj]
    · rw [List.getElem?_eq_none (by rw [wipe_length]; omega), List.getElem?_eq_none (by rw [wipe_length]; omega)]
  · rw [wipe_at q, h j q]
/-- what is wanted at the end of the items -/
def FinC (K : PySem.W.Frag) (σ : Sl) (H0 H1 : Hp) (s1 : DSt) (Q : V → Hp → Prop) (acc : List D) : Option (Res (List D) × DSt) → Prop
  | some (.ok ys, s') => ∀ H', Evo (OwnsA σ s1) H1 H' → Rel0 K σ H' s' → Sub s1 s' → ∀ g, RvNew K H0 H' g (.own (.lst (acc ++ ys))) → Q g H'
  | _ => False
/-- where a turn stands -/
structure TurnC (K : PySem.W.Frag) (σ : Sl) (H0 H1 : Hp) (s1 : DSt) (q0 : Addr) (vs : List Nat) (acc : List D) (H : Hp) (s : DSt) : Prop where
  at_ : ∃ xs, H q0 = some (.lst xs) ∧ AtAll K H acc xs
  evo : Evo (OwnsA σ s1) H1 H
  rel : Rel K σ H (wipeD s vs)
  sub : Sub s1 (wipeD s vs)
theorem comes_lc {vs : List Nat} {f : Tg} {mi : M (List D)} {t : M Bool} {el : M D} {wi : TI} {g : TG} {tt : TT} {te : TE} (hsub : ∀ i ∈ f.slots, i ∈ vs) (h2 : Comes X.K ec E (RWk X.K) mi wi)
    (g2 : ∀ σ H s v d Q, Rel X.K σ H s → At X.K H d v → (match f.go d s with
      | none => False
      | some s' => ∀ σ', Stored X.K f.slots σ σ' H s s' → Q σ' H) → g v σ H Q) (t2 : Comes X.K ec (wx E0) RBl t tt) (e2 : Comes X.K ec (wx E0) (RVal X.K) el te) : Comes0 X.K ec E (RNew X.K) (lcM vs f mi t el) (tLc wi g tt te vs) := fun σ H s Q hR hm => by
  refine h2 σ H s _ hR (hm.bnd.imp fun ds s1 H1 hms ev1 R1 S1 hk J hw => ?_)
  clear hm
  intro q0 hD
  have hD0 : H q0 = none := ev1.free q0 hD
  have nD : ¬ OwnsA σ s1 q0 := own_new R1.toRel0 hD
  have hk : FinC X.K σ H H1 s1 Q [] (lcGo vs f t el ds (wipeD s1 vs)) := by
    unfold FinC
    revert hk
    show Post0 X.K ec E σ H1 s1 _ (match lcGo vs f t el ds (wipeD s1 vs) with
      | some (.ok ys, s') => some (.ok (RV.own (.lst ys)), s')
      | _ => none) → _
    cases lcGo vs f t el ds (wipeD s1 vs) with
    | none => exact fun z => z
    | some p =>
      obtain ⟨r, s'⟩ := p
      cases r with
      | err _ _ => exact fun z => z
      | ok ys => exact fun z H' a b c gg hg' => z H' a b c gg hg'
  have start : TurnC X.K σ H H1 s1 q0 vs [] (upd H1 q0 (.lst [])) s1 := by
    have R2 : Rel X.K σ (upd H1 q0 (.lst [])) s1 := ⟨R1.toRel0.evo (A := noA) (.new hD) fun _ _ z => z, R1.bnd.newLst (Nat.zero_le _)⟩
    exact ⟨⟨[], upd_same, .nil⟩, .new hD, R2.wiped rfl fun _ _ => rfl, Sub.wiped _ _⟩
  refine ⟨fun i m H' => m = ds.length - i ∧ i ≤ ds.length ∧ ∃ acc s', acc.length ≤ i ∧ TurnC X.K σ H H1 s1 q0 vs acc H' s' ∧ FinC X.K σ H H1 s1 Q acc (lcGo vs f t el (ds.drop i) (wipeD s' vs)), ⟨ds.length, by simp, Nat.zero_le _, [], s1, Nat.le_refl _, start, by rw [List.drop_zero]; exact hk⟩, ?_⟩
  rintro i m H2 ⟨rfl, hi, acc, s2, ha, T, hf⟩
  by_cases hlt : i < ds.length
  · have T' := T
    obtain ⟨⟨xs, hDx, hxs⟩, evT, RT, ST⟩ := T'
    refine .inr ⟨hw.go i H2 evT.ext hlt, fun H' => ∃ acc s', acc.length ≤ i + 1 ∧ TurnC X.K σ H H1 s1 q0 vs acc H' s' ∧ FinC X.K σ H H1 s1 Q acc (lcGo vs f t el (ds.drop (i + 1)) (wipeD s' vs)), fun H' ⟨acc', s', a1, a2, a3⟩ => ⟨ds.length - (i + 1), by omega, rfl, hlt, acc', s', a1, a2, a3⟩, fun x H3 hy => ?_⟩
    obtain ⟨evY, bd, hx⟩ := hw.yld i H2 x H3 evT.ext hy
    have hx := hx ds[i] (List.getElem?_eq_getElem hlt)
    rw [drop_cons' hlt] at hf
    have RW : Rel X.K (wipe σ vs) H3 (wipeD s2 vs) := by
      have z : Rel X.K (wipe σ vs) H2 (wipeD (wipeD s2 vs) vs) := RT.wiped (wipe_length _ _) fun i h => wipe_at h
      have e : wipeD (wipeD s2 vs) vs = wipeD s2 vs := by
        refine List.ext_getElem? fun j => ?_
        by_cases q : j ∈ vs
        · have zz : ∀ (τ : DSt) (ws : List Nat), j ∈ ws → (wipeD τ ws)[j]? = if j < τ.length then some none else none := by
            intro τ ws
            induction ws with
            | nil => intro h; cases h
            | cons w ws ih =>
              intro h
              unfold wipeD
              by_cases e : w = j
              · subst e
                by_cases hj : w < τ.length
                · rw [List.getElem?_set_self (by rw [wipeD_len]; exact hj), if_pos hj]
                · rw [List.getElem?_eq_none (by rw [List.length_set, wipeD_len]; omega), if_neg hj]
              · rw [List.getElem?_set_ne e]
                refine ih ?_
                rcases List.mem_cons.mp h with z | z
                · exact absurd z.symm e
                · exact z
          rw [zz _ _ q, zz _ _ q, wipeD_len]
        · rw [wipeD_out q]
      rw [e] at z
      exact ⟨z.toRel0.evo0 evY, bd z.bnd⟩
    refine g2 (wipe σ vs) H3 (wipeD s2 vs) x ds[i] _ RW hx ?_
    have hf : FinC X.K σ H H1 s1 Q acc (match f.go ds[i] (wipeD s2 vs) with
      | none => none
      | some s1 => match t s1 with
        | some (.ok false, s2) => lcGo vs f t el (ds.drop (i + 1)) (wipeD s2 vs)
        | some (.ok true, s2) => match el s2 with
          | some (.ok y, s3) => match lcGo vs f t el (ds.drop (i + 1)) (wipeD s3 vs) with
            | some (.ok ys, s4) => some (.ok (y :: ys), s4)
            | _ => none
          | _ => none
        | _ => none) := hf
    cases q : f.go ds[i] (wipeD s2 vs) with
    | none => rw [q] at hf; exact hf.elim
    | some s3 =>
      rw [q] at hf
      dsimp only at hf
      intro σ3 S3
      have out : ∀ j, j ∉ vs → σ3[j]? = σ[j]? := fun j hj => by rw [S3.at_ j (fun z => hj (hsub j z)), wipe_at hj]
      have len3 : σ.length = σ3.length := by rw [S3.len, wipe_length]
      refine ⟨wipe_id S3.len fun j hj => S3.at_ j (fun z => hj (hsub j z)), ?_⟩
      have ow3 : ∀ {a}, OwnsA σ3 s3 a → OwnsA σ s1 a := fun z => ST.owns (by
        obtain ⟨k, r, a1, a2, a3⟩ := S3.owns z
        have a1 := a1
        obtain ⟨n, _⟩ := wipeD_some a1
        rw [wipe_at n] at a3
        exact ⟨k, r, a1, a2, a3⟩)
      have sub3 : Sub s1 s3 := ST.trans S3.sub
      have ev3 : Evo (OwnsA σ s1) H1 H3 := evT.trans0 evY
      have D3 : H3 q0 = some (.lst xs) := evY.keep q0 _ hDx fun z => z
      have at3 : AtAll X.K H3 acc xs := AtAll.ext evY.ext _ _ hxs
      refine t2 σ3 H3 s3 _ S3.rel ?_
      cases q2 : t s3 with
      | none => rw [q2] at hf; exact hf.elim
      | some p =>
        obtain ⟨b, s4⟩ := p
        rw [q2] at hf
        cases b with
        | err _ _ => exact hf.elim
        | ok b =>
          intro H4 ev4 R4 S4 b' hb'
          have hb' : b' = b := hb'
          subst hb'
          have ev14 : Evo (OwnsA σ s1) H1 H4 := ev3.trans ev4 fun c z => .inl (ow3 z)
          have D4 : H4 q0 = some (.lst xs) := ev4.keep q0 _ D3 fun z => nD (ow3 z)
          have at4 : AtAll X.K H4 acc xs := AtAll.ext ev4.ext _ _ at3
          cases b' with
          | false =>
            rw [if_neg Bool.false_ne_true]
            exact ⟨acc, s4, by omega, ⟨⟨xs, D4, at4⟩, ev14, R4.wiped len3 fun j hj => (out j hj).symm, (sub3.trans S4).trans (Sub.wiped _ _)⟩, hf⟩
          | true =>
            rw [if_pos rfl]
            refine e2 σ3 H4 s4 _ R4 ?_
            have hf : FinC X.K σ H H1 s1 Q acc (match el s4 with
              | some (.ok y, s3) => match lcGo vs f t el (ds.drop (i + 1)) (wipeD s3 vs) with
                | some (.ok ys, s4) => some (.ok (y :: ys), s4)
                | _ => none
              | _ => none) := hf
            cases q3 : el s4 with
            | none => rw [q3] at hf; exact hf.elim
            | some p =>
              obtain ⟨y, s5⟩ := p
              rw [q3] at hf
              cases y with
              | err _ _ => exact hf.elim
              | ok y =>
                intro H5 ev5 R5 S5 v hv
                have hv : At X.K H5 y v := hv
                have ow4 : ∀ {a}, OwnsA σ3 s4 a → OwnsA σ s1 a := fun z => ow3 (S4.owns z)
                have ev15 : Evo (OwnsA σ s1) H1 H5 := ev14.trans ev5 fun c z => .inl (ow4 z)
                have D5 : H5 q0 = some (.lst xs) := ev5.keep q0 _ D4 fun z => nD (ow4 z)
                have at5 : AtAll X.K H5 acc xs := AtAll.ext ev5.ext _ _ at4
                have evD : Evo (fun c => c = q0) H5 (upd H5 q0 (.lst (xs ++ [v]))) := .write D5 trivial rfl
                have nD5 : ∀ a, OwnsA σ3 s5 a → ¬ a = q0 := fun a z e => nD (e ▸ ow4 (S5.owns z))
                have hlen : xs.length = acc.length := at5.len
                have line := hw.line
                have R6 : Rel X.K σ3 (upd H5 q0 (.lst (xs ++ [v]))) s5 := ⟨R5.toRel0.evo evD nD5, R5.bnd.setLst D5 (by rw [List.length_append, List.length_singleton]; omega)⟩
                refine ⟨xs, D5, by omega, acc ++ [y], s5, by rw [List.length_append, List.length_singleton]; omega, ⟨⟨xs ++ [v], upd_same, (AtAll.ext evD.ext _ _ at5).app (.cons (At.ext evD.ext _ _ hv) .nil)⟩, ev15.trans evD fun c z => .inr (by rw [z]; exact hD), R6.wiped len3 fun j hj => (out j hj).symm, ((sub3.trans S4).trans S5).trans (Sub.wiped _ _)⟩, ?_⟩
                have hf : FinC X.K σ H H1 s1 Q acc (match lcGo vs f t el (ds.drop (i + 1)) (wipeD s5 vs) with
                  | some (.ok ys, s4) => some (.ok (y :: ys), s4)
                  | _ => none) := hf
                revert hf
                cases lcGo vs f t el (ds.drop (i + 1)) (wipeD s5 vs) with
                | none => exact fun z => z
                | some p =>
                  obtain ⟨r, s'⟩ := p
                  cases r with
                  | err _ _ => exact fun z => z
                  | ok ys =>
                    intro z H' a b c gg hg'
                    refine z H' a b c gg ?_
                    rw [List.append_assoc] at hg'
                    exact hg'
  · have e : i = ds.length := by omega
    subst e
    refine .inl ⟨hw.stop H2 T.evo.ext, ?_⟩
    rw [List.drop_length] at hf
    obtain ⟨⟨xs, hDx, hxs⟩, evT, RT, ST⟩ := T
    have hf : FinC X.K σ H H1 s1 Q acc (some (.ok [], wipeD s2 vs)) := hf
    refine hf H2 evT RT.toRel0 ST _ ?_
    rw [List.append_nil]
    exact ⟨q0, rfl, hD0, ⟨xs, hDx, hxs⟩⟩
theorem dr_lc {scope : Scope} {own : List (Str × Nat)} {f : Tg} {mi : M (List D)} {t : M Bool} {el : M D} (hc : X.calm = true) (hN : X.N.Nodup) (hi : DI X ec E tg iter mi) (ok : blkC X.N X.env.scope scope own = true)
    (hsub : ∀ i ∈ f.slots, i ∈ own.map (·.2)) (hg : Blk X scope fun Y => DTg Y tg f) (ht : Blk X scope fun Y => DTs Y ec (wx E0) ifs t) (he : Blk X scope fun Y => DV Y ec (wx E0) elt el) (hs : ∀ x, foldedSetIterable iter X.env x = pure x) :
    DR X ec E (.ListComp elt [⟨tg, iter, ifs, 0⟩] scope pos) (lcM (own.map (·.2)) f mi t el) := by
  obtain ⟨wi, h1, h2⟩ := hi.run
  obtain ⟨g, g1, g2⟩ := uniG hg
  obtain ⟨tt, t1, t2⟩ := uniT ht
  obtain ⟨te, e1, e2⟩ := uniV he
  exact DR.mk0 (pe_lc hc hN h1 (blkOk_by ok) g1 t1 e1 hs) (comes_lc hsub h2 g2 t2 e2)
theorem ps_bnd {st : Stmt} {t : TS} (h : PS X st t) : PS X st (fun D0 σ H => t { D0 with nx := fun σ' H' => Bounded X.K H' → D0.nx σ' H' } σ H) := by
  refine ⟨fun pins s σ H D0 I hq => ?_⟩
  refine thn (h.run pins s σ H _ I hq) fun fl s1 hs => ?_
  cases fl with
  | ret u => exact hs
  | next =>
    obtain ⟨σ', H', J, q⟩ := hs
    exact ⟨σ', H', J, q (bounded_of J)⟩
  | brk => exact hs
  | cont => exact hs
theorem ds_setLc {ow : List Nat} {i : Nat} {y : Str} {py spos : Pos} {scope : Scope} {own : List (Str × Nat)} {f : Tg} {mi : M (List D)} {t : M Bool} {el : M D} (hc : X.calm = true) (hN : X.N.Nodup) (hy : X.N[i]? = some y) (hyl : X.env.scope.names.lookup y = some .local) (hio : i ∉ ow)
    (hsw : swapsWith (.ListComp elt [⟨tg, iter, ifs, 0⟩] scope pos) (some (.Name y py)) spos.line X.env = pure true) (hi : DI X ec E tg iter mi) (ok : blkC X.N X.env.scope scope own = true)
    (hsub : ∀ i ∈ f.slots, i ∈ own.map (·.2)) (hg : Blk X scope fun Y => DTg Y tg f) (ht : Blk X scope fun Y => DTs Y ec (wx E0) ifs t) (he : Blk X scope fun Y => DV Y ec (wx E0) elt el) (hs : ∀ x, foldedSetIterable iter X.env x = pure x) :
    DS X ec E ow (.Assign [.Name y py] (.ListComp elt [⟨tg, iter, ifs, 0⟩] scope pos) spos) (setS i (lcM (own.map (·.2)) f mi t el)) := by
  obtain ⟨wi, h1, h2⟩ := hi.run
  obtain ⟨g, g1, g2⟩ := uniG hg
  obtain ⟨tt, t1, t2⟩ := uniT ht
  obtain ⟨te, e1, e2⟩ := uniV he
  refine ⟨_, ps_bnd (ps_setLc hc hN hy hyl hsw h1 (blkOk_by ok) g1 t1 e1 hs), fun c k1 k2 k3 k4 σ H s D0 R hm => ?_⟩
  subst k2 k3
  have cl := comes_lc (vs := own.map (·.2)) hsub h2 g2 t2 e2
  have RX : Rel X.K σ H s := by rw [← k1]; exact R.toRel
  refine cl σ H s _ RX ?_
  unfold setS bndS at hm
  cases q : lcM (own.map (·.2)) f mi t el s with
  | none => rw [q] at hm; exact hm
  | some p =>
    obtain ⟨r, s'⟩ := p
    rw [q] at hm
    cases r with
    | err k d => exact fun cls dx H' a b d he => hm cls dx σ H' a.ext (R.step a (by rw [k1]; exact b) d) (by rw [k1]; exact he)
    | ok r =>
      intro H' ev R' S' v hv hb
      have R2 : RelS c σ H' s' := R.step ev (by rw [k1]; exact ⟨R', hb⟩) S'
      have hv : RvNew X.K H H' v r := hv
      dsimp only at hm
      by_cases q2 : i < s'.length
      · rw [if_pos q2] at hm
        refine hm _ H' ev.ext (R2.set (by rw [k4]; exact hio) (by rw [k1]; exact hv.at_) fun o a ea => ?_)
        subst ea
        obtain ⟨n, _⟩ := hv.fresh o
        exact ⟨R.evo.free a n, fun z => own_new R.toRel0 n (S'.owns z)⟩
      · rw [if_neg q2] at hm
        exact hm.elim
end
end Dt

end
section
set_option maxRecDepth 100000
set_option autoImplicit false
namespace Dt
open PySem PySem.Spec PyProof.Rows L2

/-! ### a def by its body -/
/-- the parameters as the body has them: one's own only those at ow -/
def entD (ow : List Nat) : Nat → DSt → DSt
  | _, [] => []
  | i, r :: rs => (if i ∈ ow then r else match r with
    | some (.val d) => some (.val d)
    | _ => none) :: entD ow (i + 1) rs
/-- what is handed back of them -/
def outD (ow : List Nat) : Nat → DSt → DSt → DSt
  | _, [], _ => []
  | i, _ :: rs, s => (if i ∈ ow then (s[i]?).join else none) :: outD ow (i + 1) rs s
def fnM (n : Nat) (ow : List Nat) (b : MS) : M RV := fun rs => match b (entD ow 0 rs ++ List.replicate (n - rs.length) none) with
  | some (.nx, s) => some (.ok (.val .non), outD ow 0 rs s)
  | some (.rt r, s) => some (.ok r, outD ow 0 rs s)
  | some (.ex c d, s) => some (.err c d, outD ow 0 rs s)
  | _ => none
theorem entD_len (ow : List Nat) : ∀ (i : Nat) (rs : DSt), (entD ow i rs).length = rs.length
  | _, [] => rfl
  | i, r :: rs => by simp [entD, entD_len ow (i + 1) rs]
theorem outD_len (ow : List Nat) : ∀ (i : Nat) (rs s : DSt), (outD ow i rs s).length = rs.length
  | _, [], _ => rfl
  | i, r :: rs, s => by simp [outD, outD_len ow (i + 1) rs s]
theorem entD_get (ow : List Nat) : ∀ (i : Nat) (rs : DSt) (j : Nat) (r : RV), (entD ow i rs)[j]? = some (some r) → rs[j]? = some (some r) ∧ (r.isOwn = true → i + j ∈ ow)
  | _, [], j, r, h => by simp [entD] at h
  | i, q :: rs, 0, r, h => by
    simp only [entD, List.getElem?_cons_zero, Option.some.injEq] at h
    by_cases c : i ∈ ow
    · rw [if_pos c] at h
      subst h
      exact ⟨rfl, fun _ => c⟩
    · rw [if_neg c] at h
      cases q with
      | none => cases h
      | some q =>
        cases q with
        | val d => cases h; exact ⟨rfl, fun z => nomatch z⟩
        | own d => cases h
  | i, q :: rs, j + 1, r, h => by
    simp only [entD, List.getElem?_cons_succ] at h ⊢
    obtain ⟨a, b⟩ := entD_get ow (i + 1) rs j r h
    exact ⟨a, fun z => by have := b z; rw [show i + (j + 1) = i + 1 + j by omega]; exact this⟩
theorem outD_get (ow : List Nat) : ∀ (i : Nat) (rs s : DSt) (j : Nat) (r : RV), (outD ow i rs s)[j]? = some (some r) → i + j ∈ ow ∧ s[i + j]? = some (some r)
  | _, [], _, j, r, h => by simp [outD] at h
  | i, q :: rs, s, 0, r, h => by
    simp only [outD, List.getElem?_cons_zero, Option.some.injEq] at h
    by_cases c : i ∈ ow
    · rw [if_pos c] at h
      refine ⟨c, ?_⟩
      cases e : s[i]? with
      | none => rw [e] at h; cases h
      | some w => rw [e] at h; exact congrArg some h
    · rw [if_neg c] at h
      cases h
  | i, q :: rs, s, j + 1, r, h => by
    simp only [outD, List.getElem?_cons_succ] at h
    have := outD_get ow (i + 1) rs s j r h
    rw [show i + (j + 1) = i + 1 + j by omega]
    exact this
section
variable {K : PySem.W.Frag} {ec : EC} {E : L2.WX}
/-- the state at the entry -/
theorem ent_rel {N : List Str} {vs : List V} {H : Hp} {rs : DSt} {ow : List Nat} (R : Rel K (vs.map some) H rs) (hN : vs.length ≤ N.length) (how : ∀ i ∈ ow, i < vs.length) :
    RelS ⟨K, ec, E, vs.map some, rs, H, ow⟩ (L2.start N vs) H (entD ow 0 rs ++ List.replicate (N.length - rs.length) none) := by
  have hl : rs.length = vs.length := by have := R.len; rw [List.length_map] at this; exact this
  have get : ∀ (j : Nat) (r : RV), (entD ow 0 rs ++ List.replicate (N.length - rs.length) none)[j]? = some (some r) → j < rs.length ∧ rs[j]? = some (some r) ∧ (r.isOwn = true → j ∈ ow) := fun j r h => by
    by_cases c : j < rs.length
    · rw [List.getElem?_append_left (by rw [entD_len]; exact c)] at h
      obtain ⟨a, b⟩ := entD_get ow 0 rs j r h
      exact ⟨c, a, fun z => by have := b z; rwa [Nat.zero_add] at this⟩
    · rw [List.getElem?_append_right (by rw [entD_len]; omega), List.getElem?_replicate] at h
      split at h <;> cases h
  have st : ∀ (j : Nat), j < rs.length → (L2.start N vs)[j]? = (vs.map some)[j]? := fun j hj => by
    unfold L2.start
    rw [List.getElem?_append_left (by rw [List.length_map]; omega)]
  refine ⟨⟨⟨?_, fun j r h => ?_, fun i j r q a h1 h2 o1 o2 h3 h4 => ?_⟩, R.bnd⟩, .refl, fun j r a h o h3 => ?_, fun j hj => ?_, fun j r hj h o => ?_⟩
  · unfold L2.start
    rw [List.length_append, List.length_append, entD_len, List.length_map, List.length_replicate, List.length_replicate, hl]
  · obtain ⟨a, b, _⟩ := get j r h
    rw [st j a]
    exact R.ok j r b
  · obtain ⟨a1, b1, _⟩ := get i r h1
    obtain ⟨a2, b2, _⟩ := get j q h2
    rw [st i a1] at h3
    rw [st j a2] at h4
    exact R.sep i j r q a b1 b2 o1 o2 h3 h4
  · obtain ⟨a1, b1, c1⟩ := get j r h
    rw [st j a1] at h3
    exact .inl ⟨c1 o, j, r, b1, o, h3⟩
  · exact st j (by rw [hl]; exact how j hj)
  · obtain ⟨a1, b1, _⟩ := get j r h
    exact ⟨r, b1, o⟩
/-- the state at the end -/
theorem out_rel {N : List Str} {vs : List V} {H H' : Hp} {rs s : DSt} {σ : Sl} {ow : List Nat} (R0 : Rel K (vs.map some) H rs) (R : RelS ⟨K, ec, E, vs.map some, rs, H, ow⟩ σ H' s) :
    Evo (OwnsA (vs.map some) rs) H H' ∧ Rel K (vs.map some) H' (outD ow 0 rs s) ∧ Sub rs (outD ow 0 rs s) := by
  have get : ∀ (j : Nat) (r : RV), (outD ow 0 rs s)[j]? = some (some r) → j ∈ ow ∧ s[j]? = some (some r) ∧ σ[j]? = (vs.map some)[j]? := fun j r h => by
    obtain ⟨a, b⟩ := outD_get ow 0 rs s j r h
    rw [Nat.zero_add] at a b
    exact ⟨a, b, R.par j a⟩
  refine ⟨R.evo, ⟨⟨by rw [outD_len]; exact R0.len, fun j r h => ?_, fun i j r q a h1 h2 o1 o2 h3 h4 => ?_⟩, R.bnd⟩, fun j r h o => ?_⟩
  · obtain ⟨a, b, c⟩ := get j r h
    rw [← c]
    exact R.ok j r b
  · obtain ⟨a1, b1, c1⟩ := get i r h1
    obtain ⟨a2, b2, c2⟩ := get j q h2
    rw [← c1] at h3
    rw [← c2] at h4
    exact R.sep i j r q a b1 b2 o1 o2 h3 h4
  · obtain ⟨a, b, _⟩ := get j r h
    exact R.osub j r a b o
/-- THE RULE for a def -/
theorem fnD_ok {P : Program} {w : World} {mg : Str → Option Value} {base : Heap} {CX : CXT} {x qual : Str} {st : Stmt} {f : Addr} {fd : FuncData} {N ps : List Str} {k : Nat} {ow : List Nat} {b : MS} (F : Fun K x qual st f fd) (S : FnScope N ps (defScope st)) (how : ∀ i ∈ ow, i < ps.length)
    (hb : ∀ (cdv : Value) (A : Around) (outer : List Env) (s : Shared) (H : Hp) (E : XK), Room k (A.deeper (envOfC qual (defScope st) s.heap.objs.size f cdv)) → DSs (cxOf CX P w K mg base N qual (defScope st) f cdv A outer s H E) ec (wx E) ow (defBody st) b) :
    FnOk P w K mg base CX (k + 1) f fd ps (fun vs H Q E => vs.length = ps.length ∧ (Bounded K H → spD K ec (fnM N.length ow b) vs H Q E)) := by
  obtain ⟨oc, od, kV, doc, pm, an, cdv, ct, osl, rfl, lk, hcd⟩ := F.ex
  refine fn_of lk hcd S (fun vs H Q E h => h.1) fun A outer s H vs Q E hr hsp => ?_
  obtain ⟨hl, hsp⟩ := hsp
  obtain ⟨t, h1, h2⟩ := (hb cdv A outer s H E hr).run
  refine ⟨fun D0 σ H => Bounded K H → t D0 σ H, ⟨fun pins s σ H D0 I hq => h1.run pins s σ H D0 I (hq (bounded_of I))⟩, fun hbd => ?_⟩
  obtain ⟨rs, R, hp⟩ := hsp hbd
  have hpl : ps.length ≤ N.length := by have := congrArg List.length S.pre; rw [List.length_take] at this; omega
  have RS := ent_rel (ec := ec) (E := wx E) (N := N) (ow := ow) R (by omega) (by rw [hl]; exact how)
  refine h2 ⟨K, ec, wx E, vs.map some, rs, H, ow⟩ rfl rfl rfl rfl _ H _ _ RS ?_
  unfold fnM at hp
  revert hp
  cases b (entD ow 0 rs ++ List.replicate (N.length - rs.length) none) with
  | none => exact fun z => z
  | some q =>
    obtain ⟨fl, s'⟩ := q
    cases fl with
    | nx =>
      intro hp σ' H' e R'
      obtain ⟨a1, a2, a3⟩ := out_rel (N := N) R R'
      exact hp H' a1 a2.toRel0 a3 .non rfl
    | bk => exact fun z => z.elim
    | ct => exact fun z => z.elim
    | rt r =>
      intro hp v σ' H' e R' hv
      obtain ⟨a1, a2, a3⟩ := out_rel (N := N) R R'
      exact hp H' a1 a2.toRel0 a3 v hv
    | ex c d =>
      intro hp cls dx σ' H' e R' he
      obtain ⟨a1, a2, a3⟩ := out_rel (N := N) R R'
      exact hp cls dx H' a1 a2 a3 he
end
/-- a def of the module, by its name -/
structure FnD (P : Program) (w : World) (K : PySem.W.Frag) (mg : Str → Option Value) (base : Heap) (CX : CXT) (ec : EC) (k : Nat) (x : Str) (n : Nat) (f : M RV) : Prop where
  ok : ∃ fa fd ps, FnOk P w K mg base CX k fa fd ps (fun vs H Q E => vs.length = n ∧ (Bounded K H → spD K ec f vs H Q E)) ∧ mg x = some (.ref fa) ∧ PySem.W.keepIn K (.ref fa) = true ∧ Binds K fd ps []
section
variable {X : Cx} {ec : EC} {E : L2.WX} {e : Expr} {es : List Expr} {pos : Pos} {x : Str} {p : Pos}
theorem Comes0.imp {α γ : Type} {K : PySem.W.Frag} {R : Sl → Hp → Hp → γ → α → Prop} {m : M α} {t t' : Sl → Hp → (γ → Hp → Prop) → Prop} (h : Comes0 K ec E R m t) (i : ∀ σ H Q, t σ H Q → t' σ H Q) : Comes0 K ec E R m t' := fun σ H s Q a b => i _ _ _ (h σ H s Q a b)
theorem comes_call' {f : M RV} {as : List Arg} {t : TA} (nd : (slotsOf as).Nodup) (h : Comes X.K ec E (RArgs X.K as) (startsA as) t) :
    Comes0 X.K ec E (RNew X.K) (callF f as) (fun σ H Q => t σ H fun vs H1 => vs.length = as.length ∧ (Bounded X.K H1 → spD X.K ec f vs H1 Q (WE E σ))) := by
  intro σ H s Q hR hm
  refine h σ H s _ hR (hm.bnd.imp fun rs s2 H2 hms e2 R2 S2 hk vs hvs => ?_)
  refine ⟨hvs.lv, fun _ => ?_⟩
  obtain ⟨R, cls, fin⟩ := call_state nd hR e2 R2 S2 hvs
  refine ⟨_, R, ?_⟩
  have em : callF f as s = (match f (argsOf s2 as rs) with
    | none => none
    | some (q, xs) => some (q, back as xs s2)) := bnd_some hms
  rw [em] at hm
  revert hm
  cases f (argsOf s2 as rs) with
  | none => exact fun hm => hm
  | some q =>
    obtain ⟨q, xs⟩ := q
    cases q with
    | ok r =>
      intro hm H' ev R' S' v hv
      obtain ⟨c1, c2, c3⟩ := fin xs H' ev R' S' (.inr trivial)
      exact hm H' c1 c2 (S2.trans c3) v (hv.back e2.free)
    | err c d =>
      intro hm cl dx H' ev R' S' he
      obtain ⟨c1, c2, c3⟩ := fin xs H' ev R'.toRel0 S' (.inr trivial)
      exact hm cl dx H' c1 ⟨c2, R'.bnd⟩ (S2.trans c3) he
theorem dr_fn {CX : CXT} {k n : Nat} {f : M RV} {as : List Arg} (F : FnD X.prog X.w X.K X.mg X.base CX ec k x n f) (hn : n = as.length) (hr : Room k X.A) (hg : Gl X x) (hx : ∀ σ, PassesAt CX X σ (WE E σ)) (nd : (slotsOf as).Nodup) (ha : DAs X ec E (e :: es) as) (hdb : (x == ("__debug__" : Str)) = false)
    (he : starEach (e :: es) X.env = (false, eval e X.env) :: starEach es X.env) (hpl : (backTo pos (starEach es X.env)).any (·.1) = false) : DR X ec E (.Call (.Name x p) (e :: es) [] pos) (callF f as) := by
  obtain ⟨fa, fd, ps, F, hm, hk, hb⟩ := F.ok
  subst hn
  obtain ⟨t, h1, h2⟩ := ha.run
  exact DR.mk0 (pe_callS F hr hg hm hk hb hx h1 hdb he hpl) (comes_call' nd h2)
theorem pass0' {X : Cx} {E : L2.WX} : ∀ σ, PassesAt CX0 X σ (WE E σ) := fun _ _ _ _ _ _ _ h => h.elim
theorem fnD_mk {P : Program} {w : World} {K : PySem.W.Frag} {mg : Str → Option Value} {base : Heap} {CX : CXT} {qual : Str} {st : Stmt} {fa : Addr} {fd : FuncData} {N ps : List Str} {k : Nat} {ow : List Nat} {b : MS} (F : Fun K x qual st fa fd) (hm : mg x = some (.ref fa)) (S : FnScope N ps (defScope st)) (how : ∀ i ∈ ow, i < ps.length)
    (hbi : ∀ (kV doc pm : Value) (an : Option Addr) (cdv ct : Value) (us : List Value), us.length = ps.length → bindArgs (PySem.W.fnOf x qual (defArgs st) (defBody st) (defScope st) .none kV doc pm an cdv ct) ⟨us, []⟩ = pure (ps.zip us))
    (hb : ∀ (cdv : Value) (A : Around) (outer : List Env) (s : Shared) (H : Hp) (E : XK), Room k (A.deeper (envOfC qual (defScope st) s.heap.objs.size fa cdv)) → DSs (cxOf CX P w K mg base N qual (defScope st) fa cdv A outer s H E) ec (wx E) ow (defBody st) b) :
    FnD P w K mg base CX ec (k + 1) x ps.length (fnM N.length ow b) :=
  ⟨fa, fd, ps, fnD_ok F S how hb, hm, F.kp, F.binds hbi⟩
/-- the law's promise of its plain function -/
theorem law_sp {K : PySem.W.Frag} {H : Hp} {a : Addr} {ns : List Int} {f : M RV} (hO : Only H) (hS : SqL K H a (ns.map V.int)) (hf : ∃ s', f [some (.val (.scr ns))] = some (.ok (.val (.bl true)), s')) :
    [V.ref a].length = 1 ∧ (Bounded K H → spD K ec f [.ref a] H (fun v _ => v = .bl true) fun _ _ _ => False) := by
  refine ⟨rfl, fun hb => ⟨[some (.val (.scr ns))], ⟨⟨rfl, fun i r h => ?_, fun i j r q b h1 h2 o1 o2 => ?_⟩, hb⟩, ?_⟩⟩
  · cases i with
    | zero =>
      simp only [List.getElem?_cons_zero, Option.some.injEq] at h
      subst h
      refine ⟨.ref a, rfl, ?_⟩
      show At K H (.scr ns) (.ref a)
      unfold At
      refine ⟨a, rfl, ?_⟩
      rcases hS with (h | ⟨o, h⟩) | h
      · rcases hO a with z | ⟨o, xs, z⟩
        · rw [z] at h; cases h
        · rw [z] at h; cases h
      · exact .inl ⟨o, h⟩
      · exact .inr (.inr h)
    | succ i => simp at h
  · cases i with
    | zero =>
      simp only [List.getElem?_cons_zero, Option.some.injEq] at h1
      subst h1
      cases o1
    | succ i => simp at h1
  · obtain ⟨s', e⟩ := hf
    rw [e]
    exact fun H' _ _ _ v hv => hv
theorem FnD.mono {P : Program} {w : World} {K : PySem.W.Frag} {mg : Str → Option Value} {base : Heap} {CX : CXT} {j k n : Nat} {f : M RV} (F : FnD P w K mg base CX ec j x n f) (h : j ≤ k) : FnD P w K mg base CX ec k x n f := by
  obtain ⟨fa, fd, ps, a, b⟩ := F.ok
  exact ⟨fa, fd, ps, a.mono h, b⟩
end
end Dt

end
section
set_option maxRecDepth 100000
set_option autoImplicit false
namespace Dt
open PySem PySem.Spec PyProof.Rows L2

/-! ### a value's class -/
def clsD : D → String
  | .non => "NoneType"
  | .bl _ => "bool"
  | .int _ => "int"
  | .str _ => "str"
  | .tup _ => "tuple"
  | .lst _ => "list"
  | .dic _ _ => "dict"
  | .scr _ => "list"
  | .nst _ => "dict"
  | .exc _ _ _ _ => "exc"
section
variable {X : Cx} {pins : List (Addr × Obj)} {σ : Sl} {H : Hp} {s : Shared}
/-- the object of an exception that is held -/
theorem inst_at (I : Inv X pins σ H s) {a dx C : Addr} {oe : Obj} {f : Str} {y : V} (ha : H a = some (.frz oe uT)) (hz : oe.cls = .ref C) (hdx : oe.dict = some dx) (hf : ∃ vs, oe.data = .fields vs) (hd : H dx = some (.xd [(f, y)])) :
    ∃ od : Obj, PySem.W.InstAt s.heap a oe C (some od) := by
  obtain ⟨hget, _⟩ := (show ObjOk X.prog X.w H s.heap a (.frz oe uT) from I.hok a _ ha)
  obtain ⟨mA, hns, hr⟩ := (show ObjOk X.prog X.w H s.heap dx (.xd [(f, y)]) from I.hok dx _ hd)
  obtain ⟨od, ho, hl⟩ := lookIn_ns hns
  obtain ⟨vs, hv⟩ := hf
  exact ⟨od, hget, hz, by unfold PySem.W.notCls; rw [hv] <;> rfl, by rw [hdx]; exact ho⟩
theorem kit_ct (I : Inv X pins σ H s) {v : V} {u : Value} {d : D} (h : Ct X.K H v d) (r : RelV v u) (hE : isXc d = false) : ∃ P : Heap → Prop, PySem.W.KitX X.K u (.type (clsD d)) P ∧ P s.heap ∧ u ≠ .builtin "__main__.__loader__#opaque" := by
  cases d with
  | non => rw [h.non] at r; cases (show u = Value.none from r); exact ⟨_, PySem.W.kitx_none, True.intro, fun z => nomatch z⟩
  | bl b => rw [h.bl] at r; cases (show u = Value.bool b from r); exact ⟨_, PySem.W.kitx_bool, True.intro, fun z => nomatch z⟩
  | int i => rw [h.int] at r; obtain ⟨t, q⟩ := (show ∃ t, u = Value.int i t from r); cases q; exact ⟨_, PySem.W.kitx_int, True.intro, fun z => nomatch z⟩
  | str i => rw [h.str] at r; obtain ⟨t, q⟩ := (show ∃ t, u = Value.str i t from r); cases q; exact ⟨_, PySem.W.kitx_str, True.intro, fun z => nomatch z⟩
  | tup ds =>
    obtain ⟨a, xs, rfl, _, _⟩ := h.tup
    cases (show u = Value.ref a from r)
    obtain ⟨_, o, e1, c1⟩ := ct_cls I h rfl
    exact ⟨_, PySem.W.kitx_tuple, ⟨o, e1, c1⟩, fun z => nomatch z⟩
  | lst ds =>
    obtain ⟨a, xs, rfl, _, _⟩ := h.lst
    cases (show u = Value.ref a from r)
    obtain ⟨_, o, e1, c1⟩ := ct_cls I h rfl
    exact ⟨_, PySem.W.kitx_list, ⟨o, e1, c1⟩, fun z => nomatch z⟩
  | scr ds =>
    obtain ⟨a, rfl, _⟩ := h.scr
    cases (show u = Value.ref a from r)
    obtain ⟨_, o, e1, c1⟩ := ct_cls I h rfl
    exact ⟨_, PySem.W.kitx_list, ⟨o, e1, c1⟩, fun z => nomatch z⟩
  | dic t ds =>
    obtain ⟨a, rfl, _⟩ := h.dic
    cases (show u = Value.ref a from r)
    obtain ⟨_, o, e1, c1⟩ := ct_cls I h rfl
    exact ⟨_, PySem.W.kitx_dict, ⟨o, e1, c1⟩, fun z => nomatch z⟩
  | nst ds =>
    obtain ⟨a, _, rfl, _⟩ := h.nst
    cases (show u = Value.ref a from r)
    obtain ⟨_, o, e1, c1⟩ := ct_cls I h rfl
    exact ⟨_, PySem.W.kitx_dict, ⟨o, e1, c1⟩, fun z => nomatch z⟩
  | exc _ _ _ _ => cases hE
end
def isiB (c T : String) : Bool := c == T || (c == "bool" && T == "int")
theorem kit_tab : ∀ c ∈ ["NoneType", "bool", "int", "str", "tuple", "list", "dict"], ∀ T ∈ ["bool", "int", "str", "tuple", "list", "dict"], kitB c T = some (isiB c T) := by decide +kernel
theorem kit_cls (d : D) (hE : isXc d = false) {T : String} (h : T ∈ ["bool", "int", "str", "tuple", "list", "dict"]) : kitB (clsD d) T = some (isiB (clsD d) T) := by
  refine kit_tab _ ?_ _ h
  cases d <;> first | (simp [clsD]; done) | cases hE
theorem isi_exc : ∀ T ∈ ["bool", "int", "str", "tuple", "list", "dict"], isiB "exc" T = false := by decide
def isiV (T : String) (o : Opd) : M D := bnd o.start fun x => bnd (o.read x) fun d => ret (.bl (isiB (clsD d) T))
def isiT (T : String) (o : Opd) : M Bool := bnd o.start fun x => bnd (o.read x) fun d => ret (isiB (clsD d) T)
def rIsiD (K : PySem.W.Frag) (T : String) : List V → Hp → VK → Prop := fun xs H Q => ∃ x d, xs = [x, .ty T] ∧ Ct K H x d ∧ Q (.bl (isiB (clsD d) T)) H
section
variable {X : Cx} {ec : EC} {E : L2.WX} {a b e : Expr} {es : List Expr} {pos : Pos} {p q : Pos}
theorem call_isiD {T : String} (hT : T ∈ ["bool", "int", "str", "tuple", "list", "dict"]) : CallR X (.builtin "isinstance") (rIsiD X.K T) := by
  intro pins s σ H xs us Q I r h
  obtain ⟨x, d, rfl, cd, hq⟩ := h
  obtain ⟨u1, u2, rfl, r1, r2⟩ := vals2 r
  cases (show u2 = Value.type T from r2)
  cases hE : isXc d with
  | false =>
    obtain ⟨P, Z, p, hx⟩ := kit_ct I cd r1 hE
    exact PySem.W.kia_one Z I.kIn p (kit_ty (kit_cls d hE hT)) hx fun tk => ⟨.bl _, H, I.tok tk, rfl, hq⟩
  | true =>
    cases d with
    | exc c0 f C d =>
      obtain ⟨a, dx, oe, y, rfl, ⟨⟨k, ha⟩, ⟨hz, hdx, hf⟩, hd⟩, _⟩ := cd.exc1
      cases (show u1 = Value.ref a from r1)
      have J := inst_at I ha hz hdx hf hd
      have hcl : (PySem.W.clsIn X.K C).isSome = true := by
        obtain ⟨cd, hc, _⟩ := PySem.W.any_some k.ic.hd
        rw [hc]
        rfl
      rw [show isiB (clsD (.exc c0 f C d)) T = false from isi_exc T hT] at hq
      exact PySem.W.kia_one (PySem.W.kitx_exc hcl k.ic.hg k.ic.hk k.ic.hs k.ic.ha k.ic.hn k.ic.ht k.ic.hm) I.kIn J.choose_spec (k.tys T hT) (fun z => nomatch z) fun tk => ⟨.bl _, H, I.tok tk, rfl, hq⟩
    | _ => cases hE
theorem pe_isi {T : Str} {TS : String} {ta : TE} (hT : TS ∈ ["bool", "int", "str", "tuple", "list", "dict"]) (hg : Gl X "isinstance") (hm : X.mg "isinstance" = none) (hg2 : Gl X T) (hm2 : X.mg T = none) (hb2 : bootBuiltins T = some (.type TS)) (hn : T ≠ "__name__") (hd : (T == ("__debug__" : Str)) = false)
    (ha : PE X a ta) (hs1 : starEach [a, .Name T q] X.env = (false, eval a X.env) :: starEach [.Name T q] X.env) (hs2 : starEach [.Name T q] X.env = (false, eval (.Name T q) X.env) :: starEach [] X.env) (hpl : (backTo pos (starEach [.Name T q] X.env)).any (·.1) = false) :
    PE X (.Call (.Name "isinstance" p) [a, .Name T q] [] pos) (fun σ H Q => ta σ H fun x H1 => rIsiD X.K TS [x, .ty TS] H1 Q) :=
  pe_callB (call_isiD hT) hg hm (by decide +kernel) (pa_cons ha (pa_cons (pe_bltn (v := .ty TS) hg2 hm2 hb2 rfl hn hd) pa_nil hs2) hs1) (by decide) (by decide) hs1 hpl
theorem comes_isi {o : Opd} {TS : String} {ta : TE} (h : Comes X.K ec E (RPend X.K o) o.start ta) : Comes0 X.K ec E (RVal X.K) (isiV TS o) (fun σ H Q => ta σ H fun x H1 => rIsiD X.K TS [x, .ty TS] H1 Q) := fun σ H s Q hR hm => by
  refine h σ H s _ hR (hm.bnd.imp fun x s1 H1 _ e1 R1 S1 hk v hv => ?_)
  obtain ⟨d, cd, hk⟩ := hk.read R1.toRel0 hv
  exact ⟨v, d, rfl, cd, hk.ret H1 .refl R1.toRel0 _ rfl⟩
theorem dv_isi {T : Str} {TS : String} {o : Opd} (hT : TS ∈ ["bool", "int", "str", "tuple", "list", "dict"]) (hg : Gl X "isinstance") (hm : X.mg "isinstance" = none) (hg2 : Gl X T) (hm2 : X.mg T = none) (hb2 : bootBuiltins T = some (.type TS)) (hn : T ≠ "__name__") (hd : (T == ("__debug__" : Str)) = false)
    (ha : DO X ec E a o) (hs1 : starEach [a, .Name T q] X.env = (false, eval a X.env) :: starEach [.Name T q] X.env) (hs2 : starEach [.Name T q] X.env = (false, eval (.Name T q) X.env) :: starEach [] X.env) (hpl : (backTo pos (starEach [.Name T q] X.env)).any (·.1) = false) :
    DV X ec E (.Call (.Name "isinstance" p) [a, .Name T q] [] pos) (isiV TS o) := by
  obtain ⟨ta, h1, h2⟩ := ha.run
  exact DV.mk0 (pe_isi hT hg hm hg2 hm2 hb2 hn hd h1 hs1 hs2 hpl) (comes_isi h2)
/-- a value as a test -/
def tstM (m : M D) : M Bool := bnd m fun d => lift (blOf d)
theorem dt_val {m : M D} (h : DV X ec E e m) (hp : ∀ {t : TE}, PE X e t → PT X e (fun σ H Q => t σ H fun x H1 => ∃ k, x = .bl k ∧ Q k H1)) : DT X ec E e (tstM m) := by
  obtain ⟨t, h1, h2⟩ := h.run
  refine ⟨_, hp h1, fun σ H s Q hR hm => ?_⟩
  refine h2 σ H s _ hR (hm.bnd.imp fun x s1 H1 _ e1 R1 S1 hk v hv => ?_)
  cases e : blOf x with
  | none => rw [e] at hk; exact hk.elim
  | some b =>
    rw [e] at hk
    exact ⟨b, bl_at hv e, hk H1 .refl R1 (Sub.refl _) b rfl⟩

/-! ### built-in functions -/
def lenD : List D → Option D
  | [.str x] => if x.length ≤ sizeLine then some (.int x.length) else none
  | [.tup ds] => some (.int ds.length)
  | [.lst ds] => some (.int ds.length)
  | [.scr ns] => some (.int ns.length)
  | [.dic _ kvs] => some (.int kvs.length)
  | _ => none
theorem call_lenV : CallR X (.builtin "len") (rVn X.K lenD) := by
  intro pins s σ H vs us Q I rv h
  obtain ⟨ds, r, hcs, hg, hb, hq⟩ := h
  unfold lenD at hg
  split at hg
  · split at hg
    · rename_i hz
      cases hg
      obtain ⟨v, rfl, cv⟩ := ctAll1 hcs
      cases cv.str
      exact call_len pins s σ H _ us Q I rv ⟨_, _, rfl, ⟨hz, rfl⟩, hq _ _ .self rfl⟩
    · cases hg
  · cases hg
    obtain ⟨v, rfl, cv⟩ := ctAll1 hcs
    obtain ⟨a, xs, rfl, h1, h2⟩ := cv.tup
    exact call_len pins s σ H _ us Q I rv ⟨_, _, rfl, .inr ⟨xs, h1, rfl⟩, hq _ _ .self (by rw [h2.len]; rfl)⟩
  · cases hg
    obtain ⟨v, rfl, cv⟩ := ctAll1 hcs
    obtain ⟨a, xs, rfl, h1, h2⟩ := cv.lst
    exact call_len pins s σ H _ us Q I rv ⟨_, _, rfl, .inl ⟨xs, .inl h1, rfl⟩, hq _ _ .self (by rw [h2.len]; rfl)⟩
  · cases hg
    obtain ⟨v, rfl, cv⟩ := ctAll1 hcs
    obtain ⟨a, rfl, h1⟩ := cv.scr
    exact call_len pins s σ H _ us Q I rv ⟨_, _, rfl, .inl ⟨_, h1.sql, rfl⟩, hq _ _ .self (by rw [List.length_map]; rfl)⟩
  · rename_i t kvs
    cases hg
    obtain ⟨v, rfl, cv⟩ := ctAll1 hcs
    cases t with
    | false =>
      obtain ⟨a, es, rfl, h1, h2⟩ := cv.dicK
      obtain ⟨u, rfl, ru⟩ := vals1 rv
      cases ru
      exact d_len I h1 fun t s' I' => ⟨.int es.length, H, I', ⟨t, rfl⟩, hq _ _ .self (by rw [h2.len]; rfl)⟩
    | true =>
      obtain ⟨a, es, rfl, h1, h2⟩ := cv.dicT
      obtain ⟨u, rfl, ru⟩ := vals1 rv
      cases ru
      obtain ⟨z, hd, ys, rel, dd⟩ := dt_rd I.hok h1
      have hl : es.length = ys.length := Paired.length rel
      refine call_len_dictH hd dd (by rw [← hl]; rw [sizeLine_eq] at z; omega) ?_
      rw [← hl]
      exact ⟨.int ((es.length : Nat) : Int), H, I.tok _, ⟨_, rfl⟩, hq _ _ .self (by rw [h2.len]; rfl)⟩
  · cases hg
def absD : List D → Option D
  | [.int i] => some (.int (if i < 0 then -i else i))
  | _ => none
theorem call_absV : CallR X (.builtin "abs") (rVn X.K absD) := by
  intro pins s σ H vs us Q I rv h
  obtain ⟨ds, r, hcs, hg, hb, hq⟩ := h
  unfold absD at hg
  split at hg
  · cases hg
    obtain ⟨v, rfl, cv⟩ := ctAll1 hcs
    cases cv.int
    exact call_abs pins s σ H _ us Q I rv ⟨_, rfl, hq _ _ .self rfl⟩
  · cases hg
def minD : List D → Option D
  | [.int i, .int j] => some (.int (if j < i then j else i))
  | _ => none
def maxD : List D → Option D
  | [.int i, .int j] => some (.int (if j > i then j else i))
  | _ => none
theorem call_minV (hc : X.calm = true) : CallR X (.builtin "min") (rVn X.K minD) := by
  intro pins s σ H vs us Q I rv h
  obtain ⟨ds, r, hcs, hg, hb, hq⟩ := h
  unfold minD at hg
  split at hg
  · cases hg
    obtain ⟨v, w, rfl, cv, cw⟩ := ctAll2 hcs
    cases cv.int
    cases cw.int
    exact call_min2 hc pins s σ H _ us Q I rv ⟨_, _, rfl, hq _ _ .self rfl⟩
  · cases hg
theorem call_maxV (hc : X.calm = true) : CallR X (.builtin "max") (rVn X.K maxD) := by
  intro pins s σ H vs us Q I rv h
  obtain ⟨ds, r, hcs, hg, hb, hq⟩ := h
  unfold maxD at hg
  split at hg
  · cases hg
    obtain ⟨v, w, rfl, cv, cw⟩ := ctAll2 hcs
    cases cv.int
    cases cw.int
    exact call_max2 hc pins s σ H _ us Q I rv ⟨_, _, rfl, hq _ _ .self rfl⟩
  · cases hg
def intD : List D → Option D
  | [.int i] => some (.int i)
  | [.bl b] => some (.int (if b then 1 else 0))
  | _ => none
theorem call_intV : CallR X (.type "int") (rVn X.K intD) := by
  intro pins s σ H vs us Q I rv h
  obtain ⟨ds, r, hcs, hg, hb, hq⟩ := h
  unfold intD at hg
  split at hg
  · cases hg
    obtain ⟨v, rfl, cv⟩ := ctAll1 hcs
    cases cv.int
    exact call_int1 pins s σ H _ us Q I rv (.inl ⟨_, rfl, hq _ _ .self rfl⟩)
  · cases hg
    obtain ⟨v, rfl, cv⟩ := ctAll1 hcs
    cases cv.bl
    exact call_int1 pins s σ H _ us Q I rv (.inr ⟨_, rfl, hq _ _ .self rfl⟩)
  · cases hg
def intsD : List D → Option (List Int)
  | [] => some []
  | .int i :: ds => (intsD ds).map (i :: ·)
  | _ :: _ => none
def blsD : List D → Option (List Bool)
  | [] => some []
  | .bl i :: ds => (blsD ds).map (i :: ·)
  | _ :: _ => none
theorem ints_at {K : PySem.W.Frag} {H : Hp} : ∀ {ds : List D} {xs : List V} {ns : List Int}, AtAll K H ds xs → intsD ds = some ns → xs = ns.map V.int
  | [], _, ns, h, e => by
    have e : some [] = some ns := e
    cases e
    rw [h.inv0]
    rfl
  | d :: ds, _, ns, h, e => by
    obtain ⟨x, r, rfl, h1, h2⟩ := h.inv
    cases d with
    | int i =>
      have e : (intsD ds).map (i :: ·) = some ns := e
      cases q : intsD ds with
      | none => rw [q] at e; cases e
      | some ms =>
        rw [q] at e
        cases e
        rw [ints_at h2 q, show x = V.int i from h1]
        rfl
    | _ => cases e
theorem bls_at {K : PySem.W.Frag} {H : Hp} : ∀ {ds : List D} {xs : List V} {ns : List Bool}, AtAll K H ds xs → blsD ds = some ns → xs = ns.map V.bl
  | [], _, ns, h, e => by
    have e : some [] = some ns := e
    cases e
    rw [h.inv0]
    rfl
  | d :: ds, _, ns, h, e => by
    obtain ⟨x, r, rfl, h1, h2⟩ := h.inv
    cases d with
    | bl i =>
      have e : (blsD ds).map (i :: ·) = some ns := e
      cases q : blsD ds with
      | none => rw [q] at e; cases e
      | some ms =>
        rw [q] at e
        cases e
        rw [bls_at h2 q, show x = V.bl i from h1]
        rfl
    | _ => cases e
def sumL : List D → Option D
  | [.lst ds] => (intsD ds).map fun ns => .int ns.sum
  | _ => none
def allD : List D → Option D
  | [.lst ds] => (blsD ds).map fun ns => .bl (ns.all id)
  | _ => none
def anyD : List D → Option D
  | [.lst ds] => (blsD ds).map fun ns => .bl (ns.any id)
  | _ => none
theorem call_sumV (hc : X.calm = true) : CallR X (.builtin "sum") (rVn X.K sumL) := by
  intro pins s σ H vs us Q I rv h
  obtain ⟨ds, r, hcs, hg, hb, hq⟩ := h
  unfold sumL at hg
  split at hg
  · obtain ⟨ns, h1, h2⟩ := Option.map_eq_some_iff.mp hg
    subst h2
    obtain ⟨v, rfl, cv⟩ := ctAll1 hcs
    obtain ⟨a, xs, rfl, h3, h4⟩ := cv.lst
    have e := ints_at h4 h1
    subst e
    exact cr_sum hc pins s σ H _ us Q I rv ⟨a, ns, rfl, .inl h3, hq _ _ .self rfl⟩
  · cases hg
theorem call_allV (hc : X.calm = true) : CallR X (.builtin "all") (rVn X.K allD) := by
  intro pins s σ H vs us Q I rv h
  obtain ⟨ds, r, hcs, hg, hb, hq⟩ := h
  unfold allD at hg
  split at hg
  · obtain ⟨ns, h1, h2⟩ := Option.map_eq_some_iff.mp hg
    subst h2
    obtain ⟨v, rfl, cv⟩ := ctAll1 hcs
    obtain ⟨a, xs, rfl, h3, h4⟩ := cv.lst
    have e := bls_at h4 h1
    subst e
    exact cr_all hc pins s σ H _ us Q I rv ⟨a, ns, rfl, .inl h3, hq _ _ .self rfl⟩
  · cases hg
theorem call_anyV (hc : X.calm = true) : CallR X (.builtin "any") (rVn X.K anyD) := by
  intro pins s σ H vs us Q I rv h
  obtain ⟨ds, r, hcs, hg, hb, hq⟩ := h
  unfold anyD at hg
  split at hg
  · obtain ⟨ns, h1, h2⟩ := Option.map_eq_some_iff.mp hg
    subst h2
    obtain ⟨v, rfl, cv⟩ := ctAll1 hcs
    obtain ⟨a, xs, rfl, h3, h4⟩ := cv.lst
    have e := bls_at h4 h1
    subst e
    exact cr_any hc pins s σ H _ us Q I rv ⟨a, ns, rfl, .inl h3, hq _ _ .self rfl⟩
  · cases hg
def listD : List D → Option RV
  | [.lst ds] => some (.own (.lst ds))
  | [.tup ds] => some (.own (.lst ds))
  | [.scr ns] => some (.own (.lst (ns.map .int)))
  | _ => none
theorem call_listV : CallR X (.type "list") (rCn X.K listD) := by
  intro pins s σ H vs us Q I rv h
  obtain ⟨ds, r, hcs, hg, hb, hq⟩ := h
  unfold listD at hg
  split at hg
  · cases hg
    obtain ⟨v, rfl, cv⟩ := ctAll1 hcs
    obtain ⟨a, xs, rfl, h3, h4⟩ := cv.lst
    exact call_list_of pins s σ H _ us Q I rv ⟨a, xs, rfl, .inl (.inl h3), fun p hp => hq _ _ (.new hp) (new_own_lst hp h4)⟩
  · cases hg
    obtain ⟨v, rfl, cv⟩ := ctAll1 hcs
    obtain ⟨a, xs, rfl, h3, h4⟩ := cv.tup
    exact call_list_of pins s σ H _ us Q I rv ⟨a, xs, rfl, .inr h3, fun p hp => hq _ _ (.new hp) (new_own_lst hp h4)⟩
  · cases hg
    obtain ⟨v, rfl, cv⟩ := ctAll1 hcs
    obtain ⟨a, rfl, h3⟩ := cv.scr
    exact call_list_of pins s σ H _ us Q I rv ⟨a, _, rfl, .inl h3.sql, fun p hp => hq _ _ (.new hp) (new_own_lst hp (at_ints _))⟩
  · cases hg
def tupleD : List D → Option D
  | [.lst ds] => some (.tup ds)
  | [.tup ds] => some (.tup ds)
  | _ => none
theorem call_tupleF : CallR X (.type "tuple") (fun xs H Q => ∃ p ys, xs = [.ref p] ∧ SqL X.K H p ys ∧ ∀ l, H l = none → LaysT Q H l ys) := by
  intro pins s σ H xs us Q I r h
  obtain ⟨p, ys, rfl, hq, q⟩ := h
  obtain ⟨u, rfl, rx⟩ := vals1 r
  cases rx
  obtain ⟨its, r', pl, hz⟩ := I.list hq
  have hlen := r'.length
  refine call_tuple_list pl.isList (fun h' kp => ?_) (by simp only [List.size_toArray] <;> omega)
  have I1 : Inv X pins σ H { s with heap := h' } := I.kept (t' := s.toks) kp
  exact lays_inv (s := { s with heap := h' }) (tk := s.toks) I1 r' hz (q _ (I1.hok.fresh (Nat.le_refl _)))
theorem call_tupleV : CallR X (.type "tuple") (rVn X.K tupleD) := by
  intro pins s σ H vs us Q I rv h
  obtain ⟨ds, r, hcs, hg, hb, hq⟩ := h
  unfold tupleD at hg
  split at hg
  · cases hg
    obtain ⟨v, rfl, cv⟩ := ctAll1 hcs
    obtain ⟨a, xs, rfl, h3, h4⟩ := cv.lst
    exact call_tupleF pins s σ H _ us Q I rv ⟨a, xs, rfl, .inl h3, fun p hp => lays_at hp h4 fun o ho => hq _ _ (.new hp) ho⟩
  · cases hg
    obtain ⟨v, rfl, cv⟩ := ctAll1 hcs
    have z := cv.tupAt
    obtain ⟨a, xs, rfl, h3, h4⟩ := cv.tup
    exact call_tuple_of pins s σ H _ us Q I rv ⟨a, xs, rfl, .inr ⟨h3, hq _ _ .self z⟩⟩
  · cases hg
end
end Dt

end
section
set_option maxRecDepth 100000
set_option autoImplicit false
namespace Dt
open PySem PySem.Spec PyProof.Rows L2

/-! ### methods of built-in types -/
section
variable {X : Cx} {pins : List (Addr × Obj)} {σ : Sl} {H : Hp} {s : Shared}
def methT (T : String) : Bool := T == "str" || (T == "list" || T == "dict")
theorem ty_ct (I : Inv X pins σ H s) {v : V} {u : Value} {d : D} {T : String} (h : Ct X.K H v d) (r : RelV v u) (e : clsD d = T) (hT : methT T = true) : s.TypeIs u T ∧ ∀ a, u = .ref a → ∃ ob, s.heap.get? a = some ob ∧ ob.dict = none := by
  subst e
  cases d with
  | non => cases hT
  | bl b => cases hT
  | exc _ _ _ _ => cases hT
  | int i => cases hT
  | str x =>
    rw [h.str] at r
    obtain ⟨t, q⟩ := (show ∃ t, u = Value.str x t from r)
    cases q
    exact ⟨typeIs_str s x t, fun _ e => nomatch e⟩
  | tup ds => cases hT
  | lst ds =>
    obtain ⟨a, xs, rfl, h1, _⟩ := h.lst
    cases (show u = Value.ref a from r)
    obtain ⟨its, _, pl, _⟩ := I.list (X := X) (show SqL X.K H a xs from .inl h1)
    refine ⟨pl.isList.typeIs, fun b e => ?_⟩
    cases e
    obtain ⟨o, n, e, c, hd, _⟩ := pl
    exact ⟨o, e, hd⟩
  | scr ns =>
    obtain ⟨a, rfl, h1⟩ := h.scr
    cases (show u = Value.ref a from r)
    obtain ⟨its, _, pl, _⟩ := I.list (X := X) h1.sql
    refine ⟨pl.isList.typeIs, fun b e => ?_⟩
    cases e
    obtain ⟨o, n, e, c, hd, _⟩ := pl
    exact ⟨o, e, hd⟩
  | nst kvs =>
    obtain ⟨a, es, rfl, h1, _⟩ := h.nst
    cases (show u = Value.ref a from r)
    obtain ⟨⟨_, _, _, o, _, _, e2, c2, _⟩, _⟩ := (show ObjOk X.prog X.w H s.heap a (NRaw a es) from h1.ok I.hok)
    refine ⟨⟨o, e2, c2.1⟩, fun b e => ?_⟩
    cases e
    exact ⟨o, e2, c2.2.1⟩
  | dic t kvs =>
    obtain ⟨a, rfl, h3⟩ := h.dic
    cases (show u = Value.ref a from r)
    obtain ⟨t1, t2, _⟩ := isD_at I h3
    exact ⟨t1, t2⟩
end
section
variable {X : Cx} {ec : EC} {E : L2.WX} {a b o e : Expr} {es : List Expr} {to : TE} {t : TA} {name x : Str} {p apos cpos : Pos} {T id : String} {r : V → List V → Hp → VK → Prop}
def tBD0 (K : PySem.W.Frag) (T : String) (r : V → List V → Hp → VK → Prop) (to : TE) : TE := fun σ H Q => to σ H fun x H1 => (∃ d, Ct K H1 x d ∧ clsD d = T) ∧ r x [] H1 Q
def tBD (K : PySem.W.Frag) (T : String) (r : V → List V → Hp → VK → Prop) (to : TE) (t : TA) : TE := fun σ H Q => to σ H fun x H1 => (∃ d, Ct K H1 x d ∧ clsD d = T) ∧ t σ H1 fun xs H2 => r x xs H2 Q
theorem pe_bd0 (hT : methT T = true) (pa : PlainAttrs T) (slot : Slot T name id) (hty : typeOf (.builtin id) = pure (.type "method_descriptor")) (hm : MtR X id r) (ho : PE X o to)
    (hbase : attributeBase o name X.env (eval o X.env) = eval o X.env) (hline : (apos.endLine == cpos.line) = true) : PE X (.Call (.Attribute o name apos) [] [] cpos) (tBD0 X.K T r to) := by
  refine ⟨fun pins s σ H Q I h => ?_⟩
  refine wpAny_Call_method0_late hbase hline (thn (ho.run pins s σ H _ I h) fun v s1 ⟨x, H1, I1, r1, ⟨d, cd, ed⟩, q1⟩ => ?_)
  obtain ⟨h1, h2⟩ := ty_ct I1 cd r1 ed hT
  exact ⟨T, id, pa, slot, hty, h1, h2, Calls.callWith_builtin rfl (PySem.evalArgs_none (hm pins s1 σ H1 x [] v [] Q I1 r1 .nil q1))⟩
theorem pe_bd (hT : methT T = true) (pa : PlainAttrs T) (slot : Slot T name id) (hty : typeOf (.builtin id) = pure (.type "method_descriptor")) (hm : MtR X id r) (ho : PE X o to) (ha : PA X (e :: es) t)
    (hbase : attributeBase o name X.env (eval o X.env) = eval o X.env)
    (hfew : ((backTo cpos (starEach (e :: es) X.env)).all (fun x => !x.1) && (backToKw cpos (keywordEach [] X.env)).all (fun x => x.1.isSome)
      && decide ((e :: es).length + ([] : List Keyword).length + (if ([] : List Keyword).isEmpty then 0 else 1) < 30)) = true)
    (hline : (apos.endLine == cpos.line) = true) (hs : starEach (e :: es) X.env = (false, eval e X.env) :: starEach es X.env) (hplain : (backTo cpos (starEach es X.env)).any (·.1) = false) :
    PE X (.Call (.Attribute o name apos) (e :: es) [] cpos) (tBD X.K T r to t) := by
  refine ⟨fun pins s σ H Q I h => ?_⟩
  refine wpAny_Call_method_late hbase hfew hline rfl (thn (ho.run pins s σ H _ I h) fun v s1 ⟨x, H1, I1, r1, ⟨d, cd, ed⟩, q1⟩ => ?_)
  obtain ⟨h1, h2⟩ := ty_ct I1 cd r1 ed hT
  refine ⟨T, id, pa, slot, hty, h1, h2, ?_⟩
  have hA := ha.run cpos pins s1 σ H1 _ I1 q1
  rw [hs] at hA ⊢
  refine Calls.callWith_builtin (by show (false || (backTo cpos (starEach es X.env)).any (·.1)) = false; rw [hplain] <;> rfl) (Calls.evalArgs_plain ?_)
  exact thn hA fun us s2 ⟨vs, H2, I2, r2, q2⟩ => hm pins s2 σ H2 x vs v us Q I2 r1 r2 q2

/-! ### one's own object changed by a method -/
def rMut (K : PySem.W.Frag) (g : D → List D → Option (D × D)) : V → List V → Hp → VK → Prop := fun x vs H Q => ∃ a d ds d' r, x = .ref a ∧ OwnAt K H a d ∧ AtAll K H ds vs ∧ g d ds = some (d', r) ∧ Bounded K H ∧
  ∀ v H', Evo (fun c => c = a) H H' → OwnAt K H' a d' → At K H' r v → Q v H'
def mutE (i : Nat) (g : D → List D → Option (D × D)) (ds : List D) : M D := fun s => match s[i]? with
  | some (some (.own d)) => match g d ds with
    | some (d', r) => some (.ok r, s.set i (some (.own d')))
    | none => none
  | _ => none
def mutM (i : Nat) (T : String) (ms : M (List D)) (g : D → List D → Option (D × D)) : M D := fun s => match s[i]? with
  | some (some (.own d)) => if clsD d = T then bnd ms (mutE i g) s else none
  | _ => none
theorem mut_end {K : PySem.W.Frag} {σ : Sl} {H : Hp} {s : DSt} {i : Nat} {g : D → List D → Option (D × D)} {ds : List D} {vs : List V} {x : V} {Q : V → Hp → Prop} (R : Rel K σ H s) (hx : σ[i]? = some (some x)) (hv : AtAll K H ds vs)
    (hk : Post0 K ec E σ H s (fun r s' H' => ∀ v, At K H' r v → Q v H') (mutE i g ds s)) : rMut K g x vs H Q := by
  unfold mutE at hk
  cases q : s[i]? with
  | none => rw [q] at hk; exact hk.elim
  | some o =>
    rw [q] at hk
    cases o with
    | none => exact hk.elim
    | some r =>
      cases r with
      | val d => exact hk.elim
      | own d =>
        dsimp only at hk
        cases q2 : g d ds with
        | none => rw [q2] at hk; exact hk.elim
        | some p =>
          obtain ⟨d', r⟩ := p
          rw [q2] at hk
          obtain ⟨v, h1, h2⟩ := R.ok i _ q
          rw [hx] at h1
          cases h1
          obtain ⟨a, rfl, ow⟩ := h2
          refine ⟨a, d, ds, d', r, rfl, ow, hv, q2, R.bnd, fun v H' ev od hr => ?_⟩
          exact hk H' (ev.mono fun c z => ⟨i, _, q, rfl, by rw [z]; exact hx⟩) (R.toRel0.put ev q rfl hx ⟨a, rfl, od⟩) (Sub.put q rfl) v hr
theorem comes_mut {i : Nat} {g : D → List D → Option (D × D)} {ms : M (List D)} {t : TA} (h : Comes X.K ec E (RAll X.K) ms t) : Comes0 X.K ec E (RVal X.K) (mutM i T ms g) (tBD X.K T (rMut X.K g) (tVar i) t) := fun σ H s Q hR hm => by
  unfold mutM at hm
  cases q : s[i]? with
  | none => rw [q] at hm; exact hm.elim
  | some o =>
    rw [q] at hm
    cases o with
    | none => exact hm.elim
    | some r =>
      cases r with
      | val d => exact hm.elim
      | own d =>
        dsimp only at hm
        by_cases c : clsD d = T
        · rw [if_pos c] at hm
          obtain ⟨v, h1, h2⟩ := hR.ok i _ q
          refine ⟨v, h1, ⟨d, .inr h2, c⟩, ?_⟩
          exact h σ H s _ hR (hm.bnd.imp fun ds s1 H1 _ e1 R1 S1 hk vs hvs => mut_end R1 h1 hvs hk)
        · rw [if_neg c] at hm
          exact hm.elim
theorem comes_mut0 {i : Nat} {g : D → List D → Option (D × D)} : Comes0 X.K ec E (RVal X.K) (mutM i T (ret []) g) (tBD0 X.K T (rMut X.K g) (tVar i)) := fun σ H s Q hR hm => by
  unfold mutM at hm
  cases q : s[i]? with
  | none => rw [q] at hm; exact hm.elim
  | some o =>
    rw [q] at hm
    cases o with
    | none => exact hm.elim
    | some r =>
      cases r with
      | val d => exact hm.elim
      | own d =>
        dsimp only at hm
        by_cases c : clsD d = T
        · rw [if_pos c] at hm
          obtain ⟨v, h1, h2⟩ := hR.ok i _ q
          exact ⟨v, h1, ⟨d, .inr h2, c⟩, mut_end hR h1 .nil hm⟩
        · rw [if_neg c] at hm
          exact hm.elim
theorem dv_mut {i : Nat} {g : D → List D → Option (D × D)} {ms : M (List D)} (hT : methT T = true) (pa : PlainAttrs T) (slot : Slot T name id) (hty : typeOf (.builtin id) = pure (.type "method_descriptor")) (hm : MtR X id (rMut X.K g)) (ho : PE X o (tVar i)) (ha : DA X ec E (e :: es) ms)
    (hbase : attributeBase o name X.env (eval o X.env) = eval o X.env)
    (hfew : ((backTo cpos (starEach (e :: es) X.env)).all (fun x => !x.1) && (backToKw cpos (keywordEach [] X.env)).all (fun x => x.1.isSome)
      && decide ((e :: es).length + ([] : List Keyword).length + (if ([] : List Keyword).isEmpty then 0 else 1) < 30)) = true)
    (hline : (apos.endLine == cpos.line) = true) (hs : starEach (e :: es) X.env = (false, eval e X.env) :: starEach es X.env) (hplain : (backTo cpos (starEach es X.env)).any (·.1) = false) :
    DV X ec E (.Call (.Attribute o name apos) (e :: es) [] cpos) (mutM i T ms g) := by
  obtain ⟨t, h1, h2⟩ := ha.run
  exact DV.mk0 (pe_bd hT pa slot hty hm ho h1 hbase hfew hline hs hplain) (comes_mut h2)
theorem dv_mut0 {i : Nat} {g : D → List D → Option (D × D)} (hT : methT T = true) (pa : PlainAttrs T) (slot : Slot T name id) (hty : typeOf (.builtin id) = pure (.type "method_descriptor")) (hm : MtR X id (rMut X.K g)) (ho : PE X o (tVar i))
    (hbase : attributeBase o name X.env (eval o X.env) = eval o X.env) (hline : (apos.endLine == cpos.line) = true) :
    DV X ec E (.Call (.Attribute o name apos) [] [] cpos) (mutM i T (ret []) g) := DV.mk0 (pe_bd0 hT pa slot hty hm ho hbase hline) comes_mut0

/-! ### append, extend, reverse, clear, pop -/
def appendG : D → List D → Option (D × D)
  | .lst ds, [d] => if ds.length < 1000000 then some (.lst (ds ++ [d]), .non) else none
  | _, _ => none
def extendG : D → List D → Option (D × D)
  | .lst ds, [.lst es] => if ds.length + es.length ≤ 1000000 then some (.lst (ds ++ es), .non) else none
  | _, _ => none
def reverseG : D → List D → Option (D × D)
  | .lst ds, [] => some (.lst ds.reverse, .non)
  | _, _ => none
def clearG : D → List D → Option (D × D)
  | .lst _, [] => some (.lst [], .non)
  | _, _ => none
def popG : D → List D → Option (D × D)
  | .lst ds, [] => ds[ds.length - 1]?.map fun d => (.lst ds.dropLast, d)
  | _, _ => none
theorem own_lst {K : PySem.W.Frag} {H : Hp} {a : Addr} {ds : List D} (h : OwnAt K H a (.lst ds)) : ∃ xs, H a = some (.lst xs) ∧ AtAll K H ds xs := h
theorem evo_lst {H : Hp} {a : Addr} {xs ys : List V} (h : H a = some (.lst xs)) : Evo (fun c => c = a) H (upd H a (.lst ys)) := .write h trivial rfl
/-- extend by a list, whatever it is -/
theorem mt_extL : MtR X "list.extend" (fun x vs H Q => ∃ l b xs zs, x = .ref l ∧ vs = [.ref b] ∧ H l = some (.lst xs) ∧ Rd H b (.lst zs) ∧ xs.length + zs.length ≤ sizeLine ∧ Q .non (upd H l (.lst (xs ++ zs)))) := by
  intro pins s σ H x vs v us Q I rx rv h
  obtain ⟨l, b, xs, zs, rfl, rfl, hH, hB, hz, q⟩ := h
  cases rx
  obtain ⟨u, rfl, ru⟩ := rv.one
  cases ru
  obtain ⟨z, its, n, r, hl, e⟩ := rd_lst I (.inl hH)
  obtain ⟨z2, its2, n2, r2, hl2, e2⟩ := rd_lst I hB
  have hsz : its.toArray.size + its2.toArray.size ≤ sizeLine := by rw [List.size_toArray, List.size_toArray]; omega
  have hlong : ¬ (!its.toArray.isEmpty && Builtin.List.listTooLong (its.toArray.size + its2.toArray.size)) = true := by
    rw [notLongL hsz, Bool.and_false]
    exact Bool.false_ne_true
  refine call_meets F.slot_list_extend ⟨_, e, rfl⟩ F.entry_list_extend (F.args_list_extend_2 _ _)
    (AutoSeq1.list_extend_list_list_0 l its.toArray n b its2.toArray n2 hlong (by rw [List.size_toArray]; omega) (by omega)) ⟨e, e2, ?_⟩
  refine ⟨.non, _, I.lset (its' := its ++ its2) hH e (by simp) (r.append r2) ?_, rfl, q⟩
  rw [List.length_append]
  omega
theorem mt_appendD : MtR X "list.append" (rMut X.K appendG) := by
  intro pins s σ H x vs v us Q I rx rv h
  obtain ⟨a, d, ds, d', r, rfl, ow, hv, hg, hb, q⟩ := h
  unfold appendG at hg
  split at hg
  · split at hg
    · rename_i hz
      cases hg
      obtain ⟨xs, h1, h2⟩ := own_lst ow
      obtain ⟨y, ys, rfl, h3, h4⟩ := hv.inv
      rw [h4.inv0] at rv
      refine mt_append pins s σ H _ _ v us Q I rx rv ⟨a, xs, y, rfl, rfl, h1, by rw [h2.len, sizeLine_eq]; omega, ?_⟩
      have ev := evo_lst (ys := xs ++ [y]) h1
      exact q _ _ ev ⟨_, upd_same, (AtAll.ext ev.ext _ _ h2).app (.cons (At.ext ev.ext _ _ h3) .nil)⟩ rfl
    · cases hg
  · cases hg
theorem mt_extendD : MtR X "list.extend" (rMut X.K extendG) := by
  intro pins s σ H x vs v us Q I rx rv h
  obtain ⟨a, d, ds, d', r, rfl, ow, hv, hg, hb, q⟩ := h
  unfold extendG at hg
  split at hg
  · split at hg
    · rename_i hz
      cases hg
      obtain ⟨xs, h1, h2⟩ := own_lst ow
      obtain ⟨y, ys, rfl, h3, h4⟩ := hv.inv
      rw [h4.inv0] at rv
      obtain ⟨b, zs, rfl, h5, h6⟩ := (At.ct h3).lst
      have ev := evo_lst (ys := xs ++ zs) h1
      exact mt_extL pins s σ H _ _ v us Q I rx rv ⟨a, b, xs, zs, rfl, rfl, h1, h5, by rw [h2.len, h6.len, sizeLine_eq]; omega, q _ _ ev ⟨_, upd_same, (AtAll.ext ev.ext _ _ h2).app (AtAll.ext ev.ext _ _ h6)⟩ rfl⟩
    · cases hg
  · cases hg
theorem mt_reverseD : MtR X "list.reverse" (rMut X.K reverseG) := by
  intro pins s σ H x vs v us Q I rx rv h
  obtain ⟨a, d, ds, d', r, rfl, ow, hv, hg, hb, q⟩ := h
  unfold reverseG at hg
  split at hg
  · cases hg
    obtain ⟨xs, h1, h2⟩ := own_lst ow
    rw [hv.inv0] at rv
    have ev := evo_lst (ys := xs.reverse) h1
    exact mt_reverse pins s σ H _ _ v us Q I rx rv ⟨a, xs, rfl, rfl, h1, q _ _ ev ⟨_, upd_same, (AtAll.ext ev.ext _ _ h2).rev⟩ rfl⟩
  · cases hg
theorem mt_clearD : MtR X "list.clear" (rMut X.K clearG) := by
  intro pins s σ H x vs v us Q I rx rv h
  obtain ⟨a, d, ds, d', r, rfl, ow, hv, hg, hb, q⟩ := h
  unfold clearG at hg
  split at hg
  · cases hg
    obtain ⟨xs, h1, h2⟩ := own_lst ow
    rw [hv.inv0] at rv
    have ev := evo_lst (ys := []) h1
    exact mt_clear pins s σ H _ _ v us Q I rx rv ⟨a, xs, rfl, rfl, h1, q _ _ ev ⟨_, upd_same, .nil⟩ rfl⟩
  · cases hg
theorem AtAll.dropLast {K : PySem.W.Frag} {H : Hp} {ds : List D} {xs : List V} (h : AtAll K H ds xs) : AtAll K H ds.dropLast xs.dropLast := by
  rw [List.dropLast_eq_take, List.dropLast_eq_take, h.len]
  exact h.take _
theorem mt_popD : MtR X "list.pop" (rMut X.K popG) := by
  intro pins s σ H x vs v us Q I rx rv h
  obtain ⟨a, d, ds, d', r, rfl, ow, hv, hg, hb, q⟩ := h
  unfold popG at hg
  split at hg
  · obtain ⟨z, e1, e2⟩ := Option.map_eq_some_iff.mp hg
    cases e2
    obtain ⟨xs, h1, h2⟩ := own_lst ow
    rw [hv.inv0] at rv
    obtain ⟨y, h3, h4⟩ := h2.get e1
    have ev := evo_lst (ys := xs.dropLast) h1
    exact mt_pop pins s σ H _ _ v us Q I rx rv ⟨a, xs, y, rfl, rfl, h1, by rw [h2.len]; exact h3, q _ _ ev ⟨_, upd_same, (AtAll.ext ev.ext _ _ h2).dropLast⟩ (At.ext ev.ext _ _ h4)⟩
  · cases hg

/-! ### a[k] = v, a one's own -/
theorem keyT_ne {ds : List D} {k : List Key} (h : keyT ds = true) (e : atomsD ds = some k) : k ≠ [] := by
  cases ds with
  | nil => cases h
  | cons d r =>
    intro z
    subst z
    unfold atomsD at e
    revert e
    cases atomD d with
    | none => exact fun e => by cases e
    | some κ =>
      cases atomsD r with
      | none => exact fun e => by cases e
      | some l => exact fun e => by cases e
def putKey : Bool → D → Option DK
  | true, .tup ds => if keyT ds = true then keyD true (.tup ds) else none
  | t, d => keyD t d
def setG : D → D → D → Option D
  | .lst ds, .int k, v => (ixN ds.length k).map fun j => .lst (ds.set j v)
  | .dic t kvs, k, v => if kvs.length < 1000000 then (putKey t k).map fun κ => .dic t (putD kvs κ v) else none
  | _, _, _ => none
def rSetD2 (K : PySem.W.Frag) : TSet := fun o i v H Q => ∃ a d di dv d', o = .ref a ∧ OwnAt K H a d ∧ At K H di i ∧ At K H dv v ∧ setG d di dv = some d' ∧ Bounded K H ∧ ∀ H', Evo (fun c => c = a) H H' → OwnAt K H' a d' → Q H'
theorem PSet.or {t t' : TSet} (h : PSet X t) (h' : PSet X t') : PSet X (fun o i v H Q => t o i v H Q ∨ t' o i v H Q) := fun pins s σ H o i v ov iv u Q I ro ri rv q => q.elim (h pins s σ H o i v ov iv u Q I ro ri rv) (h' pins s σ H o i v ov iv u Q I ro ri rv)
theorem set_own (hu : X.A.units + 1 < cLine) : PSet X (rSetD2 X.K) := by
  intro pins s σ H o i v ov iv u Q I ro ri rv h
  obtain ⟨a, d, di, dv, d', rfl, ow, hi, hv, hg, hb, q⟩ := h
  cases d with
  | lst ds =>
    cases di with
    | int k =>
      have hg : ((ixN ds.length k).map fun j => D.lst (ds.set j dv)) = some d' := hg
      obtain ⟨j, h1, h2⟩ := Option.map_eq_some_iff.mp hg
      cases h2
      obtain ⟨xs, h3, h4⟩ := own_lst ow
      have ev := evo_lst (ys := xs.set j v) h3
      cases (show i = V.int _ from hi)
      exact set_list pins s σ H _ _ v ov iv u Q I ro ri rv ⟨a, xs, _, j, rfl, rfl, h3, by rw [h4.len]; exact h1, q _ ev ⟨_, upd_same, (AtAll.ext ev.ext _ _ h4).set j (At.ext ev.ext _ _ hv)⟩⟩
    | _ => cases hg
  | dic t kvs =>
    have hg : (if kvs.length < 1000000 then (putKey t di).map fun κ => D.dic t (putD kvs κ dv) else none) = some d' := by
      cases di <;> exact hg
    split at hg
    · rename_i hz
      obtain ⟨κ, h1, h2⟩ := Option.map_eq_some_iff.mp hg
      cases h2
      cases t with
      | false =>
        have h1 : (atomD di).map ofKey = some κ := by
          cases di <;> exact h1
        obtain ⟨k, h5, h6⟩ := Option.map_eq_some_iff.mp h1
        subst h6
        obtain ⟨es, h3, h4⟩ := (show ∃ es : List (Key × V), H a = some (.dK es) ∧ AtK X.K H kvs es from ow)
        have ei := atom_at (At.ct hi) h5
        subst ei
        have ev : Evo (fun c => c = a) H (upd H a (.dK (putK es k v))) := .write h3 trivial rfl
        refine set_dict hu pins s σ H _ _ v ov iv u Q I ro ri rv ⟨a, _, rfl, .k h3 (by rw [h4.len, sizeLine_eq]; omega), q _ ev ⟨_, upd_same, ?_⟩⟩
        exact AtK.put k (hb.dK a es (.inl h3)).2 (AtK.ext ev.ext _ _ h4) (At.ext ev.ext _ _ hv)
      | true =>
        cases di with
        | tup ds =>
          have h1 : (if keyT ds = true then keyD true (.tup ds) else none) = some κ := h1
          split at h1
          · rename_i hk
            obtain ⟨k, h5, h6⟩ := Option.map_eq_some_iff.mp (show (atomsD ds).map ofKeys = some κ from h1)
            subst h6
            obtain ⟨es, h3, h4⟩ := (show ∃ es : List (List Key × V), H a = some (.dT es) ∧ AtT X.K H kvs es from ow)
            unfold At at hi
            obtain ⟨b, xs, rfl, h7, h8⟩ := hi
            have ex := atoms_at h8 h5
            subst ex
            have ev : Evo (fun c => c = a) H (upd H a (.dT (putK es k v))) := .write h3 trivial rfl
            refine set_dict hu pins s σ H _ _ v ov iv u Q I ro ri rv ⟨a, _, rfl, .t h3 (h7.2.1 hk) (by rw [h4.len, sizeLine_eq]; omega), q _ ev ⟨_, upd_same, ?_⟩⟩
            exact AtT.put k (hb.dT a es (.inl h3)).2 (AtT.ext ev.ext _ _ h4) (At.ext ev.ext _ _ hv) (keyT_ne hk h5)
          · cases h1
        | _ => cases h1
    · cases hg
  | _ => cases hg
def storeE (i : Nat) (v k : D) : MS := fun s => match s[i]? with
  | some (some (.own d)) => match setG d k v with
    | some d' => some (.nx, s.set i (some (.own d')))
    | none => none
  | _ => none
def storeS (i : Nat) (mv mk : M D) : MS := bndS mv fun v => bndS (hasSlot i) fun _ => bndS mk fun k => storeE i v k
theorem ds_store {i : Nat} {ow : List Nat} {mv mk : M D} {k c : Expr} {spos pos : Pos} (hu : X.A.units + 1 < cLine) (hv : DV X ec E e mv) (ho : PE X o (tVar i)) (hk : DV X ec E k mk)
    (ha : ∀ v, assign (.Subscript o k spos) X.env v = (do
      let ov ← holding [v] (eval o X.env)
      let iv ← holding [v, ov] (eval k X.env)
      standAt spos
      holding [v, ov, iv] (setItem ov iv v)
      release [v, ov, iv] []))
    (hs : swapsWithSole [.Subscript o k spos] e pos.line X.env = pure false) (hw : swappedStores [.Subscript o k spos] e X.env = pure none) (hz : (assignEach [.Subscript o k spos] X.env).map (·.2) = [assign (.Subscript o k spos) X.env]) :
    DS X ec E ow (.Assign [.Subscript o k spos] e pos) (storeS i mv mk) := by
  obtain ⟨tv, h1, h2⟩ := hv.run
  obtain ⟨tk, h3, h4⟩ := hk.run
  have ho2 : ∀ ec E, Comes X.K ec E (RPend X.K (.slot i)) (hasSlot i) (tVar i) := fun ec E σ H s Q hR hm => by
    unfold hasSlot at hm
    cases q : s[i]? with
    | none => rw [q] at hm; exact hm.elim
    | some o =>
      rw [q] at hm
      cases o with
      | none => exact hm.elim
      | some r =>
        obtain ⟨v, h1, h2⟩ := hR.ok i r q
        exact ⟨v, h1, hm H .refl hR (Sub.refl _) v h1⟩
  refine ⟨_, ps_bnd (ps_asg h1 (pg_sub ho h3 (set_own hu) ha) hs hw hz), fun c k1 k2 k3 k4 σ H s D0 R hm => ?_⟩
  have h2' : Comes c.K c.ec c.E (RVal c.K) mv tv := by rw [k1, k2, k3]; exact h2
  have h4' : Comes c.K c.ec c.E (RVal c.K) mk tk := by rw [k1, k2, k3]; exact h4
  have ho' : Comes c.K c.ec c.E (RPend c.K (.slot i)) (hasSlot i) (tVar i) := by rw [k1]; exact ho2 _ _
  refine useE (k := fun v => bndS (hasSlot i) fun _ => bndS mk fun k => storeE i v k) h2' R hm fun dv s1 H1 v ev1 sb1 R1 hv hk1 => ?_
  show tVar i σ H1 (fun o H1 => tk σ H1 fun i H2 => rSetD2 X.K o i v H2 fun H3 => Bounded X.K H3 → D0.nx σ H3)
  refine useE (k := fun _ => bndS mk fun k => storeE i dv k) ho' R1 hk1 fun _ s2 H2 x ev2 sb2 R2 hx hk2 => ?_
  refine useE (k := fun k => storeE i dv k) h4' R2 hk2 fun dk s3 H3 y ev3 sb3 R3 hy hk3 => ?_
  have hx : σ[i]? = some (some x) := hx
  unfold storeE at hk3
  cases q : s3[i]? with
  | none => rw [q] at hk3; exact hk3.elim
  | some o =>
    rw [q] at hk3
    cases o with
    | none => exact hk3.elim
    | some r =>
      cases r with
      | val d => exact hk3.elim
      | own d =>
        dsimp only at hk3
        cases q2 : setG d dk dv with
        | none => rw [q2] at hk3; exact hk3.elim
        | some d' =>
          rw [q2] at hk3
          obtain ⟨w, a1, a2⟩ := R3.ok i _ q
          rw [hx] at a1
          cases a1
          obtain ⟨a, rfl, ow'⟩ := a2
          have hv' : At c.K H3 dv v := At.ext (ev2.ext.trans ev3.ext) _ _ hv
          rw [k1] at ow' hv' hy
          have b3 : Bounded X.K H3 := by rw [← k1]; exact R3.bnd
          refine ⟨a, d, dk, dv, d', rfl, ow', hy, hv', q2, b3, fun H' ev od hb => ?_⟩
          have hi : i ∉ c.ow ∨ i ∈ c.ow := by by_cases z : i ∈ c.ow <;> simp [z]
          have od' : OwnAt c.K H' a d' := by rw [k1]; exact od
          have hb' : Bounded c.K H' := by rw [k1]; exact hb
          have R0 := R3.toRel0.put (r' := .own d') ev q rfl hx ⟨a, rfl, od'⟩
          exact hk3 σ H' ev.ext (R3.step (ev.mono fun c z => ⟨i, _, q, rfl, by rw [z]; exact hx⟩) ⟨R0, hb'⟩ (Sub.put q rfl))
end
end Dt

end
section
set_option maxRecDepth 100000
set_option autoImplicit false
namespace Dt
open PySem PySem.Spec PyProof.Rows L2

/-! ### more that is walked -/
section
variable {X : Cx} {ec : EC} {E : L2.WX} {tg a b c e o : Expr} {es elts : List Expr} {pos p tpos apos cpos : Pos} {kk : Nat}
def enumL : Nat → List D → List D
  | _, [] => []
  | i, d :: ds => .tup [.int i, d] :: enumL (i + 1) ds
theorem enumL_len : ∀ (ds : List D) (i : Nat), (enumL i ds).length = ds.length
  | [], _ => rfl
  | d :: ds, i => by simp [enumL, enumL_len ds]
theorem enumL_get : ∀ (ds : List D) (i j : Nat) (d : D), (enumL i ds)[j]? = some d → ∃ x, ds[j]? = some x ∧ d = .tup [.int ((i + j : Nat) : Int), x]
  | [], _, j, d, h => by simp [enumL] at h
  | x :: ds, i, 0, d, h => by
    simp [enumL] at h
    exact ⟨x, rfl, h.symm⟩
  | x :: ds, i, j + 1, d, h => by
    simp only [enumL, List.getElem?_cons_succ] at h
    obtain ⟨y, h1, h2⟩ := enumL_get ds (i + 1) j d h
    exact ⟨y, by simpa using h1, by rw [h2]; congr 4; omega⟩
theorem pair_new {K : PySem.W.Frag} {H : Hp} {q : Addr} {x y : V} {d e : D} (hq : H q = none) (h1 : At K H d x) (h2 : At K H e y) (hn : pairsT [d, e] = false) : At K (upd H q (.tup [x, y])) (.tup [d, e]) (.ref q) := new_tup hq (.cons h1 (.cons h2 .nil)) hn
theorem pair_bd {K : PySem.W.Frag} {H : Hp} {q : Addr} {x y : V} (hq : H q = none) (b : Bounded K H) : Bounded K (upd H q (.tup [x, y])) := b.newTup hq (by rw [sizeLine_eq]; show 2 ≤ _; omega)
theorem Walks.enum {K : PySem.W.Frag} {H : Hp} {a : Addr} {xs : List V} {ds : List D} (h : SqF H a xs) (q : AtAll K H ds xs) (b : Bounded K H) : Walks K (Ite K a) (enumL 0 ds) H where
  go := fun i H1 e hi => by
    rw [enumL_len] at hi
    obtain ⟨x, hx, _⟩ := q.get (List.getElem?_eq_getElem hi)
    exact ⟨xs, x, (h.ext e).sql, hx⟩
  yld := fun i H1 x H2 e ⟨T, y, ex, hT, e2, hx⟩ => by
    subst ex e2
    refine ⟨.new hT, fun z => pair_bd hT z, fun d hd => ?_⟩
    obtain ⟨z, h1, h2⟩ := enumL_get ds 0 i d hd
    subst h2
    obtain ⟨w, hw, hat⟩ := (AtAll.ext e _ _ q).get h1
    rw [hx xs (h.ext e).sql] at hw
    cases hw
    rw [Nat.zero_add]
    exact pair_new hT rfl hat rfl
  stop := fun H1 e => ⟨xs, (h.ext e).sql, by rw [q.len, enumL_len]; exact Nat.le_refl _⟩
  line := by rw [enumL_len, ← q.len]; exact b.seq a xs (.inl h.sql)
def lst1 : List D → Option (List D)
  | [.lst ds] => some ds
  | _ => none
def iterL (g : List D → Option (List D)) (ms : M (List D)) : M (List D) := bnd ms fun ds => lift (g ds)
def enumA (ds : List D) : Option (List D) := (lst1 ds).map (enumL 0)
theorem at_lst1 {K : PySem.W.Frag} {H : Hp} {ds es : List D} {vs : List V} (h : AtAll K H ds vs) (e : lst1 ds = some es) : ∃ a xs, vs = [.ref a] ∧ SqF H a xs ∧ AtAll K H es xs := by
  unfold lst1 at e
  split at e
  · cases e
    obtain ⟨x, r, rfl, h1, h2⟩ := h.inv
    rw [h2.inv0]
    unfold At at h1
    obtain ⟨a, xs, rfl, h3, h4⟩ := h1
    exact ⟨a, xs, rfl, h3, h4⟩
  · cases e
theorem di_enum {ms : M (List D)} (hg : Gl X "enumerate") (hm : X.mg "enumerate" = none) (ha : DA X ec E [e] ms) (hs : starEach [e] X.env = [(false, eval e X.env)]) : DI X ec E (.Tuple elts kk tpos) (.Call (.Name "enumerate" p) [e] [] pos) (iterL enumA ms) := by
  obtain ⟨t, h1, h2⟩ := ha.run
  refine DI.mk0 (pi_enum hg hm h1 hs) fun σ H s Q hR hm => ?_
  refine h2 σ H s _ hR (hm.bnd.imp fun ds s1 H1 _ e1 R1 S1 hk vs hvs => ?_)
  obtain ⟨es, hd, hk⟩ := hk.lift
  obtain ⟨fs, h5, h6⟩ := Option.map_eq_some_iff.mp (show (lst1 ds).map (enumL 0) = some es from hd)
  subst h6
  obtain ⟨a, xs, rfl, h3, h4⟩ := at_lst1 hvs h5
  exact ⟨a, xs, rfl, h3.sql, hk H1 .refl R1.toRel0 _ (.enum h3 h4 R1.bnd)⟩
/-! #### a dict's pairs, its values -/
theorem Walks.items {K : PySem.W.Frag} {H : Hp} {a : Addr} {ob : Obj} {es : List (Key × V)} {kvs : List (DK × D)} (h : H a = some (.frz ob (.dK es))) (q : AtK K H kvs es) (b : Bounded K H) : Walks K (Iti a ob es) (kvs.map fun p => .tup [p.1.toD, p.2]) H where
  go := fun i H1 e hi => ⟨e.frz _ _ _ h, by rw [q.len]; simpa using hi⟩
  yld := fun i H1 x H2 e ⟨T, k, v, hk, ex, hT, e2⟩ => by
    subst ex e2
    refine ⟨.new hT, fun z => pair_bd hT z, fun d hd => ?_⟩
    obtain ⟨d', a1, a2⟩ := (AtK.ext e _ _ q).keys hk
    rw [List.getElem?_map, a1] at hd
    cases hd
    exact pair_new hT (at_key k) a2 (by cases k <;> rfl)
  stop := fun H1 e => ⟨e.frz _ _ _ h, by rw [q.len, List.length_map]; exact Nat.le_refl _⟩
  line := by rw [List.length_map, ← q.len]; exact (b.dK a es (.inr ⟨ob, h⟩)).1
theorem Walks.values {K : PySem.W.Frag} {H : Hp} {a : Addr} {ob : Obj} {es : List (Key × V)} {kvs : List (DK × D)} (h : H a = some (.frz ob (.dK es))) (q : AtK K H kvs es) (b : Bounded K H) : Walks K (Itd a ob es) (kvs.map fun p => p.2) H where
  go := fun i H1 e hi => ⟨e.frz _ _ _ h, by rw [q.len]; simpa using hi⟩
  yld := fun i H1 x H2 e ⟨e2, k, hk⟩ => by
    subst e2
    refine ⟨.refl, fun z => z, fun d hd => ?_⟩
    obtain ⟨d', a1, a2⟩ := (AtK.ext e _ _ q).keys hk
    rw [List.getElem?_map, a1] at hd
    cases hd
    exact a2
  stop := fun H1 e => ⟨e.frz _ _ _ h, by rw [q.len, List.length_map]; exact Nat.le_refl _⟩
  line := by rw [List.length_map, ← q.len]; exact (b.dK a es (.inr ⟨ob, h⟩)).1
def dicI (f : DK × D → D) : D → Option (List D)
  | .dic false kvs => some (kvs.map f)
  | _ => none
def itemsI : D → Option (List D) := dicI fun p => .tup [p.1.toD, p.2]
def valuesI : D → Option (List D) := dicI fun p => p.2
theorem at_dicI {K : PySem.W.Frag} {H : Hp} {d : D} {f : DK × D → D} {v : V} {es : List D} (h : At K H d v) (e : dicI f d = some es) : ∃ kvs a ob xs, v = .ref a ∧ H a = some (.frz ob (.dK xs)) ∧ AtK K H kvs xs ∧ es = kvs.map f := by
  unfold dicI at e
  split at e
  · cases e
    unfold At at h
    obtain ⟨a, ob, rfl, xs, h1, h2⟩ := h
    exact ⟨_, a, ob, xs, rfl, h1, h2, rfl⟩
  · cases e
theorem di_items {m : M D} (h : DV X ec E e m) (hbase : attributeBase e "items" X.env (eval e X.env) = eval e X.env) (hline : (apos.endLine == cpos.line) = true) : DI X ec E (.Tuple elts kk tpos) (.Call (.Attribute e "items" apos) [] [] cpos) (bnd m fun d => lift (itemsI d)) := by
  obtain ⟨t, h1, h2⟩ := h.run
  refine DI.mk0 (pi_items h1 hbase hline) fun σ H s Q hR hm => ?_
  refine h2 σ H s _ hR (hm.bnd.imp fun d s1 H1 _ e1 R1 S1 hk v hv => ?_)
  obtain ⟨es, hd, hk⟩ := hk.lift
  obtain ⟨kvs, a, ob, xs, rfl, h3, h4, rfl⟩ := at_dicI hv hd
  exact ⟨a, ob, xs, rfl, h3, hk H1 .refl R1.toRel0 _ (.items h3 h4 R1.bnd)⟩
theorem di_values {m : M D} (h : DV X ec E e m) (hbase : attributeBase e "values" X.env (eval e X.env) = eval e X.env) (hline : (apos.endLine == cpos.line) = true) : DI X ec E tg (.Call (.Attribute e "values" apos) [] [] cpos) (bnd m fun d => lift (valuesI d)) := by
  obtain ⟨t, h1, h2⟩ := h.run
  refine DI.mk0 (pi_values h1 hbase hline) fun σ H s Q hR hm => ?_
  refine h2 σ H s _ hR (hm.bnd.imp fun d s1 H1 _ e1 R1 S1 hk v hv => ?_)
  obtain ⟨es, hd, hk⟩ := hk.lift
  obtain ⟨kvs, a, ob, xs, rfl, h3, h4, rfl⟩ := at_dicI hv hd
  exact ⟨a, ob, xs, rfl, h3, hk H1 .refl R1.toRel0 _ (.values h3 h4 R1.bnd)⟩
/-! #### reversed -/
theorem rev_get {α : Type} {l : List α} {i : Nat} (h : i < l.length) : l.reverse[i]? = l[l.length - 1 - i]? := List.getElem?_reverse h
theorem Walks.revL {K : PySem.W.Frag} {H : Hp} {a : Addr} {xs : List V} {ds : List D} (h : SqF H a xs) (q : AtAll K H ds xs) (b : Bounded K H) : Walks K (Itv K a xs.length) ds.reverse H where
  go := fun i H1 e hi => by
    rw [List.length_reverse, ← q.len] at hi
    exact ⟨hi, xs, _, (h.ext e).sql, List.getElem?_eq_getElem (by omega)⟩
  yld := fun i H1 x H2 e ⟨e2, hx⟩ => by
    subst e2
    refine ⟨.refl, fun z => z, fun d hd => ?_⟩
    have hi := (List.getElem?_eq_some_iff.mp hd).1
    rw [List.length_reverse] at hi
    rw [rev_get hi] at hd
    obtain ⟨y, hy, hat⟩ := (AtAll.ext e _ _ q).get hd
    have z := hx xs (h.ext e).sql
    rw [q.len, hy] at z
    cases z
    exact hat
  stop := fun H1 e => by show xs.length ≤ _; rw [List.length_reverse, q.len]; exact Nat.le_refl _
  line := by rw [List.length_reverse, ← q.len]; exact b.seq a xs (.inl h.sql)
theorem Walks.revT {K : PySem.W.Frag} {H : Hp} {a : Addr} {xs : List V} {ds : List D} (h : SqT K H a xs) (q : AtAll K H ds xs) (b : Bounded K H) : Walks K (RT.ItvT K a xs.length) ds.reverse H where
  go := fun i H1 e hi => by
    rw [List.length_reverse, ← q.len] at hi
    exact ⟨hi, xs, _, SqT.ext h e, List.getElem?_eq_getElem (by omega)⟩
  yld := fun i H1 x H2 e ⟨e2, hx⟩ => by
    subst e2
    refine ⟨.refl, fun z => z, fun d hd => ?_⟩
    have hi := (List.getElem?_eq_some_iff.mp hd).1
    rw [List.length_reverse] at hi
    rw [rev_get hi] at hd
    obtain ⟨y, hy, hat⟩ := (AtAll.ext e _ _ q).get hd
    have z := hx xs (SqT.ext h e)
    rw [q.len, hy] at z
    cases z
    exact hat
  stop := fun H1 e => by show xs.length ≤ _; rw [List.length_reverse, q.len]; exact Nat.le_refl _
  line := by rw [List.length_reverse, ← q.len]; exact b.seq a xs (.inr h)
def revI : D → Option (List D)
  | .lst ds => some ds.reverse
  | .tup ds => some ds.reverse
  | _ => none
theorem di_rev {m : M D} (hg : Gl X "reversed") (hm : X.mg "reversed" = none) (h : DV X ec E e m) (hs : starEach [e] X.env = (false, eval e X.env) :: starEach [] X.env) : DI X ec E tg (.Call (.Name "reversed" p) [e] [] pos) (bnd m fun d => lift (revI d)) := by
  obtain ⟨t, h1, h2⟩ := h.run
  refine DI.mk0 (RT.pi_revA hg hm h1 hs) fun σ H s Q hR hm => ?_
  refine h2 σ H s _ hR (hm.bnd.imp fun d s1 H1 _ e1 R1 S1 hk v hv => ?_)
  obtain ⟨es, hd, hk⟩ := hk.lift
  unfold revI at hd
  split at hd
  · cases hd
    unfold At at hv
    obtain ⟨a, xs, rfl, h3, h4⟩ := hv
    exact ⟨a, xs, rfl, .inl ⟨h3.sql, hk H1 .refl R1.toRel0 _ (.revL h3 h4 R1.bnd)⟩⟩
  · cases hd
    obtain ⟨a, xs, rfl, h3, h4⟩ := (At.ct hv).tup
    exact ⟨a, xs, rfl, .inr ⟨h3, hk H1 .refl R1.toRel0 _ (.revT h3 h4 R1.bnd)⟩⟩
  · cases hd

/-! ### methods that only read -/
def rRead (K : PySem.W.Frag) (g : D → List D → Option D) : V → List V → Hp → VK → Prop := fun x vs H Q => ∃ d ds r, Ct K H x d ∧ AtAll K H ds vs ∧ g d ds = some r ∧ Bounded K H ∧ ∀ v H', Evo noA H H' → At K H' r v → Q v H'
def rReadN (K : PySem.W.Frag) (g : D → List D → Option RV) : V → List V → Hp → VK → Prop := fun x vs H Q => ∃ d ds r, Ct K H x d ∧ AtAll K H ds vs ∧ g d ds = some r ∧ Bounded K H ∧ ∀ v H', Evo noA H H' → RvNew K H H' v r → Q v H'
theorem Post.read {K : PySem.W.Frag} {σ : Sl} {H : Hp} {s : DSt} {β : Type} {o : Opd} {d : D} {v : V} {f : D → M β} {k : β → DSt → Hp → Prop} {H0 : Hp} (h : Post K ec E σ H s k (Dt.bnd (o.read d) f s)) (R : Rel0 K σ H s) (p : RPend K o σ H0 H v d) : ∃ c, Ct K H v c ∧ Post K ec E σ H s k (f c s) := by
  cases o with
  | v m => exact ⟨d, .inl p, h⟩
  | slot i =>
    have h : Post K ec E σ H s k (Dt.bnd (rdSlot i) f s) := h
    have p : σ[i]? = some (some v) := p
    unfold Dt.bnd rdSlot at h
    cases e : s[i]? with
    | none => rw [e] at h; exact h.elim
    | some q =>
      rw [e] at h
      cases q with
      | none => exact h.elim
      | some r =>
        obtain ⟨w, h1, h2⟩ := R.ok i r e
        rw [p] at h1
        cases h1
        exact ⟨r.d, h2.ct, h⟩
def methW {β : Type} (o : Opd) (T : String) (ms : M (List D)) (g : D → List D → Option β) : M β := bnd o.start fun x => bnd (o.read x) fun d0 => if clsD d0 = T then bnd ms fun ds => bnd (o.read x) fun d => lift (g d ds) else fail
variable {T id : String} {name : Str}
theorem comes_meth {oo : Opd} {ms : M (List D)} {g : D → List D → Option D} {to : TE} {t : TA} (h1 : Comes X.K ec E (RPend X.K oo) oo.start to) (h2 : Comes X.K ec E (RAll X.K) ms t) : Comes0 X.K ec E (RVal X.K) (methW oo T ms g) (tBD X.K T (rRead X.K g) to t) := fun σ H s Q hR hm => by
  refine h1 σ H s _ hR (hm.bnd.imp fun x s1 H1 _ e1 R1 S1 hk v hv => ?_)
  obtain ⟨d0, cd0, hk⟩ := hk.read R1.toRel0 hv
  by_cases c : clsD d0 = T
  · rw [if_pos c] at hk
    refine ⟨⟨d0, cd0, c⟩, ?_⟩
    refine h2 σ H1 s1 _ R1 (hk.bnd.imp fun ds s2 H2 _ e2 R2 S2 hk2 vs hvs => ?_)
    obtain ⟨d, cd, hk2⟩ := hk2.read R2.toRel0 (hv.ext e2.ext)
    obtain ⟨r, hr, hk2⟩ := hk2.lift
    exact ⟨d, ds, r, cd, hvs, hr, R2.bnd, fun w H' ev hw => hk2 H' (ev.mono fun _ z => z.elim) (R2.toRel0.evo0 ev) w hw⟩
  · rw [if_neg c] at hk
    exact hk.elim
theorem comes_methN {oo : Opd} {ms : M (List D)} {g : D → List D → Option RV} {to : TE} {t : TA} (h1 : Comes X.K ec E (RPend X.K oo) oo.start to) (h2 : Comes X.K ec E (RAll X.K) ms t) : Comes0 X.K ec E (RNew X.K) (methW oo T ms g) (tBD X.K T (rReadN X.K g) to t) := fun σ H s Q hR hm => by
  refine h1 σ H s _ hR (hm.bnd.imp fun x s1 H1 _ e1 R1 S1 hk v hv => ?_)
  obtain ⟨d0, cd0, hk⟩ := hk.read R1.toRel0 hv
  by_cases c : clsD d0 = T
  · rw [if_pos c] at hk
    refine ⟨⟨d0, cd0, c⟩, ?_⟩
    refine h2 σ H1 s1 _ R1 (hk.bnd.imp fun ds s2 H2 _ e2 R2 S2 hk2 vs hvs => ?_)
    obtain ⟨d, cd, hk2⟩ := hk2.read R2.toRel0 (hv.ext e2.ext)
    obtain ⟨r, hr, hk2⟩ := hk2.lift
    exact ⟨d, ds, r, cd, hvs, hr, R2.bnd, fun w H' ev hw => hk2 H' (ev.mono fun _ z => z.elim) (R2.toRel0.evo0 ev) w (hw.back fun p hp => e1.free p (e2.free p hp))⟩
  · rw [if_neg c] at hk
    exact hk.elim
theorem dv_meth {oo : Opd} {ms : M (List D)} {g : D → List D → Option D} (hT : methT T = true) (pa : PlainAttrs T) (slot : Slot T name id) (hty : typeOf (.builtin id) = pure (.type "method_descriptor")) (hm : MtR X id (rRead X.K g)) (ho : DO X ec E o oo) (ha : DA X ec E (e :: es) ms)
    (hbase : attributeBase o name X.env (eval o X.env) = eval o X.env)
    (hfew : ((backTo cpos (starEach (e :: es) X.env)).all (fun x => !x.1) && (backToKw cpos (keywordEach [] X.env)).all (fun x => x.1.isSome)
      && decide ((e :: es).length + ([] : List Keyword).length + (if ([] : List Keyword).isEmpty then 0 else 1) < 30)) = true)
    (hline : (apos.endLine == cpos.line) = true) (hs : starEach (e :: es) X.env = (false, eval e X.env) :: starEach es X.env) (hplain : (backTo cpos (starEach es X.env)).any (·.1) = false) :
    DV X ec E (.Call (.Attribute o name apos) (e :: es) [] cpos) (methW oo T ms g) := by
  obtain ⟨to, h1, h2⟩ := ho.run
  obtain ⟨t, h3, h4⟩ := ha.run
  exact DV.mk0 (pe_bd hT pa slot hty hm h1 h3 hbase hfew hline hs hplain) (comes_meth h2 h4)
theorem dr_meth {oo : Opd} {ms : M (List D)} {g : D → List D → Option RV} (hT : methT T = true) (pa : PlainAttrs T) (slot : Slot T name id) (hty : typeOf (.builtin id) = pure (.type "method_descriptor")) (hm : MtR X id (rReadN X.K g)) (ho : DO X ec E o oo) (ha : DA X ec E (e :: es) ms)
    (hbase : attributeBase o name X.env (eval o X.env) = eval o X.env)
    (hfew : ((backTo cpos (starEach (e :: es) X.env)).all (fun x => !x.1) && (backToKw cpos (keywordEach [] X.env)).all (fun x => x.1.isSome)
      && decide ((e :: es).length + ([] : List Keyword).length + (if ([] : List Keyword).isEmpty then 0 else 1) < 30)) = true)
    (hline : (apos.endLine == cpos.line) = true) (hs : starEach (e :: es) X.env = (false, eval e X.env) :: starEach es X.env) (hplain : (backTo cpos (starEach es X.env)).any (·.1) = false) :
    DR X ec E (.Call (.Attribute o name apos) (e :: es) [] cpos) (methW oo T ms g) := by
  obtain ⟨to, h1, h2⟩ := ho.run
  obtain ⟨t, h3, h4⟩ := ha.run
  exact DR.mk0 (pe_bd hT pa slot hty hm h1 h3 hbase hfew hline hs hplain) (comes_methN h2 h4)
def getG : D → List D → Option D
  | .dic t kvs, [k] => (keyD t k).map fun κ => (lookD kvs κ).getD .non
  | .dic t kvs, [k, d] => (keyD t k).map fun κ => (lookD kvs κ).getD d
  | _, _ => none
theorem lookR_getD {K : PySem.W.Frag} {H : Hp} {o : Option D} {r : Option V} {d : D} {v : V} (h : LookR K H o r) (hd : At K H d v) : At K H (o.getD d) (r.getD v) := by
  cases o with
  | none => rw [show r = none from h]; exact hd
  | some x => obtain ⟨w, e, q⟩ := h; rw [e]; exact q
theorem mt_getD (hu : X.A.units + 1 < cLine) : MtR X "dict.get" (rRead X.K getG) := by
  intro pins s σ H x vs v us Q I rx rv h
  obtain ⟨d, ds, r, cd, hv, hg, hb, q⟩ := h
  unfold getG at hg
  split at hg
  · obtain ⟨κ, h1, h2⟩ := Option.map_eq_some_iff.mp hg
    subst h2
    obtain ⟨y, ys, rfl, h3, h4⟩ := hv.inv
    rw [h4.inv0] at rv
    obtain ⟨a, w, rfl, g, l⟩ := ct_dg cd (At.ct h3) h1
    obtain ⟨u, rfl, ru⟩ := rv.one
    cases rx
    exact g_get1 hu I g ru fun w' s' I' rw' => ⟨_, H, I', rw', q _ _ .self (lookR_getD l rfl)⟩
  · obtain ⟨κ, h1, h2⟩ := Option.map_eq_some_iff.mp hg
    subst h2
    obtain ⟨y, ys, rfl, h3, h4⟩ := hv.inv
    obtain ⟨z, zs, rfl, h5, h6⟩ := h4.inv
    rw [h6.inv0] at rv
    obtain ⟨a, w, rfl, g, l⟩ := ct_dg cd (At.ct h3) h1
    obtain ⟨u, u2, rfl, ru, ru2⟩ := rv.two
    cases rx
    exact g_get2 hu I g ru ru2 fun w' s' I' rw' => ⟨_, H, I', rw', q _ _ .self (lookR_getD l h5)⟩
  · cases hg
end
end Dt

end
section
set_option maxRecDepth 100000
set_option autoImplicit false
namespace Dt
open PySem PySem.Spec PyProof.Rows L2

/-! ### short words for the printed texts -/
abbrev vRV (m : M D) : M RV := bnd m fun d => ret (.val d)
abbrev negV (o : Opd) : M D := bnd o.start fun x => bnd (o.read x) fun d => lift (negD d)
abbrev revM (m : M D) : M (List D) := bnd m fun d => lift (revI d)
abbrev itemsM (m : M D) : M (List D) := bnd m fun d => lift (itemsI d)
abbrev valuesM (m : M D) : M (List D) := bnd m fun d => lift (valuesI d)
abbrev bkS : MS := fun s => some (.bk, s)
abbrev ctS : MS := fun s => some (.ct, s)
abbrev retNS : MS := fun s => some (.rt (.val .non), s)
theorem hu64_of {A : Around} {k : Nat} (hr : Room k A) : A.units + 64 < cLine := by have := hr.un; omega
theorem hpo_of {CX : CXT} {P : Program} {w : World} {K : PySem.W.Frag} {mg : Str → Option Value} {base : Heap} {N : List Str} {qual : Str} {sc : Scope} {fa : Addr} {cdv : Value} {A : Around} {outer : List Env} {s : Shared} {H : Hp} {E : XK} :
    PassesOwn (model P w) (cxOf CX P w K mg base N qual sc fa cdv A outer s H E).A (cxOf CX P w K mg base N qual sc fa cdv A outer s H E).env (cxOf CX P w K mg base N qual sc fa cdv A outer s H E).xe := passes_of (X := cxOf CX P w K mg base N qual sc fa cdv A outer s H E) rfl

/-! ### slices -/
structure DP (X : Cx) (ec : EC) (E : L2.WX) (e : Option Expr) (m : M (Option Int)) : Prop where
  run : ∃ t, PO X e t ∧ Comes X.K ec E (fun _ _ _ g r => g = r) m t
def intOf : D → Option Int
  | .int i => some i
  | _ => none
def somM (m : M D) : M (Option Int) := bnd m fun d => bnd (lift (intOf d)) fun i => ret (some i)
section
variable {X : Cx} {ec : EC} {E : L2.WX} {a b c e : Expr} {pos p2 : Pos} {lo hi : Option Expr}
theorem dp_none : DP X ec E none (ret none) := ⟨_, po_none, fun σ H s Q hR hm => Post.retq hR hm none rfl⟩
theorem dp_some {m : M D} (h : DV X ec E e m) : DP X ec E (some e) (somM m) := by
  obtain ⟨t, h1, h2⟩ := h.run
  refine ⟨_, po_some h1, fun σ H s Q hR hm => ?_⟩
  refine h2 σ H s _ hR (hm.bnd.imp fun d s1 H1 _ e1 R1 S1 hk v hv => ?_)
  obtain ⟨i, hi, hk⟩ := hk.liftq
  cases d <;> cases hi
  exact ⟨_, hv, Post.retq R1 hk _ rfl⟩
def cutD {α : Type} (xs : List α) (lo hi : Option Int) : List α := (xs.drop (HT.sIx xs.length 0 lo)).take (HT.sIx xs.length xs.length hi - HT.sIx xs.length 0 lo)
def sliceD (d : D) (lo hi : Option Int) : Option RV := match d with
  | .lst ds => some (.own (.lst (cutD ds lo hi)))
  | .scr ns => some (.own (.lst ((cutD ns lo hi).map .int)))
  | .str z => if z.length ≤ sizeLine then some (.val (.str (cutS z lo hi))) else none
  | .tup ds => some (.val (.tup (cutD ds lo hi)))
  | _ => none
theorem AtAll.cut {K : PySem.W.Frag} {H : Hp} {ds : List D} {xs : List V} (lo hi : Option Int) (h : AtAll K H ds xs) : AtAll K H (cutD ds lo hi) (cutV xs lo hi) := by
  unfold cutD cutV
  rw [h.len]
  exact (h.drop _).take _
def rSlD (K : PySem.W.Frag) : V → Option Int → Option Int → Hp → VK → Prop := fun x lo hi H Q => ∃ d r, Ct K H x d ∧ sliceD d lo hi = some r ∧ ∀ v H', Evo noA H H' → RvNew K H H' v r → Q v H'
theorem SlR.imp {r r' : V → Option Int → Option Int → Hp → VK → Prop} (h : SlR X r) (i : ∀ x lo hi H Q, r' x lo hi H Q → r x lo hi H Q) : SlR X r' := fun pins s σ H x v vl vu lo hi sl Q I rx hs pl pu q => h pins s σ H x v vl vu lo hi sl Q I rx hs pl pu (i x lo hi H Q q)
def rSlF (K : PySem.W.Frag) : V → Option Int → Option Int → Hp → VK → Prop := fun x lo hi H Q => ∃ a xs, x = .ref a ∧ SqT K H a xs ∧
  ¬ (HT.sIx xs.length 0 lo = 0 ∧ HT.sIx xs.length xs.length hi = xs.length) ∧ ∀ p, H p = none → LaysT Q H p (cutV xs lo hi)
theorem sl_tupF : SlR X (rSlF X.K) := by
  intro pins s σ H x v vl vu lo hi sl Q I rx hs pl pu h
  obtain ⟨a, xs, rfl, hx, hw, q⟩ := h
  cases rx
  obtain ⟨its, r, ht, hz⟩ := I.tuple hx
  have hlen : its.toArray.size = xs.length := by rw [List.size_toArray]; exact r.length.symm
  refine ⟨"tuple", _, PyProof.Rows.slot_tuple_getitem.lookup, ht.typeIs, ?_⟩
  refine HT.getItem_tuple_cut ht hs pl pu (by rw [hlen]; exact hw) ?_ (by rw [hlen]; exact hz)
  rw [hlen]
  exact lays_inv (s := s) (tk := s.toks) I ((r.drop (HT.sIx xs.length 0 lo)).take (HT.sIx xs.length xs.length hi - HT.sIx xs.length 0 lo)) (Nat.le_trans (cutV_length xs lo hi) hz) (q _ (I.hok.fresh (Nat.le_refl _)))
/-- the whole of a tuple is the tuple itself -/
def rSlW (K : PySem.W.Frag) : V → Option Int → Option Int → Hp → VK → Prop := fun x lo hi H Q => ∃ a xs, x = .ref a ∧ SqT K H a xs ∧ (HT.sIx xs.length 0 lo = 0 ∧ HT.sIx xs.length xs.length hi = xs.length) ∧ Q (.ref a) H
theorem sl_tupW : SlR X (rSlW X.K) := SlR.imp sl_tupA fun x lo hi H Q ⟨a, xs, e, h, w, q⟩ => ⟨a, xs, e, h, fun _ => q, fun n => absurd w n⟩
theorem cut_whole {α : Type} {l : List α} {lo hi : Option Int} (h : HT.sIx l.length 0 lo = 0 ∧ HT.sIx l.length l.length hi = l.length) : cutD l lo hi = l := by
  unfold cutD
  rw [h.1, h.2, List.drop_zero, Nat.sub_zero, List.take_length]
theorem sl_D : SlR X (rSlD X.K) := by
  refine SlR.imp ((sl_list.or sl_str).or (sl_tupF.or sl_tupW)) ?_
  rintro x lo hi H Q ⟨d, r, cd, hr, q⟩
  cases d with
  | lst ds =>
    cases hr
    obtain ⟨a, xs, rfl, h1, h2⟩ := cd.lst
    exact .inl (.inl ⟨a, xs, rfl, .inl h1, fun p hp => q _ _ (.new hp) (new_own_lst hp (h2.cut lo hi))⟩)
  | scr ns =>
    cases hr
    obtain ⟨a, rfl, h1⟩ := cd.scr
    refine .inl (.inl ⟨a, _, rfl, h1.sql, fun p hp => q _ _ (.new hp) (new_own_lst hp ?_)⟩)
    have e : cutV (ns.map V.int) lo hi = (cutD ns lo hi).map V.int := by
      unfold cutV cutD
      rw [List.length_map, List.map_take, List.map_drop]
    rw [e]
    exact at_ints _
  | str z =>
    have hr : (if z.length ≤ sizeLine then some (RV.val (.str (cutS z lo hi))) else none) = some r := hr
    split at hr
    · rename_i hz
      cases hr
      exact .inl (.inr ⟨_, cd.str, hz, q _ _ .self rfl⟩)
    · cases hr
  | tup ds =>
    cases hr
    by_cases hn : HT.sIx ds.length 0 lo = 0 ∧ HT.sIx ds.length ds.length hi = ds.length
    · obtain ⟨a, xs, rfl, h1, h2⟩ := cd.tup
      have ca := cd.tupAt
      refine .inr (.inr ⟨a, xs, rfl, h1, by rw [h2.len]; exact hn, q _ _ .self ?_⟩)
      rw [cut_whole hn]
      exact ca
    · obtain ⟨a, xs, rfl, h1, h2⟩ := cd.tup
      exact .inr (.inl ⟨a, xs, rfl, h1, by rw [h2.len]; exact hn, fun p hp => lays_at hp (h2.cut lo hi) fun o ho => q _ _ (.new hp) ho⟩)
  | _ => cases hr
def sliceM (o : Opd) (lo hi : M (Option Int)) : M RV := bnd o.start fun x => bnd lo fun l => bnd hi fun h => bnd (o.read x) fun d => lift (sliceD d l h)
theorem dr_slice {o : Opd} {m n : M (Option Int)} (ha : DO X ec E a o) (hl : DP X ec E lo m) (hh : DP X ec E hi n) : DR X ec E (.Subscript a (.Slice lo hi none p2) pos) (sliceM o m n) := by
  obtain ⟨ta, h1, h2⟩ := ha.run
  obtain ⟨tl, h3, h4⟩ := hl.run
  obtain ⟨th, h5, h6⟩ := hh.run
  refine DR.mk0 (pe_slice sl_D h1 h3 h5) fun σ H s Q hR hm => ?_
  refine h2 σ H s _ hR (hm.bnd.imp fun x s1 H1 _ e1 R1 S1 hk v hv => ?_)
  refine h4 σ H1 s1 _ R1 (hk.bnd.imp fun l s2 H2 _ e2 R2 S2 hk2 l' hl => ?_)
  refine h6 σ H2 s2 _ R2 (hk2.bnd.imp fun u s3 H3 _ e3 R3 S3 hk3 u' hu => ?_)
  have hl : l' = l := hl
  have hu : u' = u := hu
  subst hl hu
  obtain ⟨d, cd, hk3⟩ := hk3.read R3.toRel0 (hv.ext (e2.ext.trans e3.ext))
  obtain ⟨r, hr, hk3⟩ := hk3.lift
  exact ⟨d, r, cd, hr, fun w H' ev hw => hk3 H' (ev.mono fun _ z => z.elim) (R3.toRel0.evo0 ev) w (hw.back fun p hp => e1.free p (e2.free p (e3.free p hp)))⟩
/-! ### a product -/
def strMul (z : Str) (n : Int) : Str := ⟨((List.replicate n.toNat z.cps.toList).flatten).toArray⟩
def mulD : D → D → Option RV
  | .int i, .int j => if mulOk i j = true then some (.val (.int (i * j))) else none
  | _, _ => none
theorem op_mulD : OpR X (binaryOp .Mult) (rC2 X.K mulD) := by
  refine OpR.imp op_mulI ?_
  rintro x y H Q ⟨d, e, r, hd, he, hg, hb, q⟩
  unfold mulD at hg
  split at hg
  · split at hg
    · rename_i c
      cases hg
      exact ⟨_, _, .int _, hd, he, by unfold mulI intOp; exact if_pos c, hb, fun v H' ev hv => q v H' ev hv⟩
    · cases hg
  · cases hg
/-! ### two comparisons -/
theorem op_bnd {f : Value → Value → Sem Value} {r : R2} (h : OpR X f r) : OpR X f (fun x y H Q => r x y H fun v H' => Bounded X.K H' → Q v H') := fun pins s σ H x y v u Q I rx ry q =>
  thn (h pins s σ H x y v u _ I rx ry q) fun u s' ⟨v, H', J, r, k⟩ => ⟨v, H', J, r, k (bounded_of J)⟩
def chainV (g h : D → D → Option D) (o p q : Opd) : M D := bnd o.start fun x => bnd p.start fun y => bnd (o.read x) fun d => bnd (p.read y) fun e => bnd (lift ((g d e).bind blOf)) fun b => if b = true then bnd q.start fun z => bnd (p.read y) fun e => bnd (q.read z) fun f => lift (h e f) else ret (.bl false)
theorem comes_chain {op op' : CmpOp} {g h : D → D → Option D} {oa ob oc : Opd} (ho : OpR X (compareOp op) (rV2 X.K g)) (ho' : OpR X (compareOp op') (rV2 X.K h)) (ha : DO X ec E a oa) (hb : DO X ec E b ob) (hc : DO X ec E c oc) (hm : lastMarks [op, op'] [b, c] = false) :
    ∃ t, PE X (.Compare a [op, op'] [b, c] pos) t ∧ PT X (.Compare a [op, op'] [b, c] pos) (tTest t) ∧ Comes0 X.K ec E (RVal X.K) (chainV g h oa ob oc) t := by
  obtain ⟨ta, h1, h2⟩ := ha.run
  obtain ⟨tb, h3, h4⟩ := hb.run
  obtain ⟨tc, h5, h6⟩ := hc.run
  refine ⟨_, pe_chain (op_bnd ho) ho' h1 h3 h5 hm, pt_chain (op_bnd ho) ho' h1 h3 h5 hm, fun σ H s Q hR hm => ?_⟩
  refine h2 σ H s _ hR (hm.bnd.imp fun x s1 H1 _ e1 R1 S1 hk v hv => ?_)
  refine h4 σ H1 s1 _ R1 (hk.bnd.imp fun y s2 H2 _ e2 R2 S2 hk2 w hw => ?_)
  obtain ⟨d, cd, hk2⟩ := hk2.read R2.toRel0 (hv.ext e2.ext)
  obtain ⟨e, ce, hk2⟩ := hk2.read R2.toRel0 hw
  cases hg : g d e with
  | none => rw [hg] at hk2; exact hk2.elim
  | some r =>
    rw [hg] at hk2
    cases r with
    | bl k =>
      have hk2 : Post0 X.K ec E σ H2 s2 _ ((if k = true then bnd oc.start fun z => bnd (ob.read y) fun e => bnd (oc.read z) fun f => lift (h e f) else ret (.bl false)) s2) := hk2
      refine ⟨d, e, _, cd, ce, hg, R2.bnd, fun z H3 ev hz hb3 => ⟨k, hz, ?_⟩⟩
      have R3 : Rel0 X.K σ H3 s2 := R2.toRel0.evo0 ev
      cases k with
      | false =>
        rw [if_neg Bool.false_ne_true] at hk2 ⊢
        exact hk2.ret H3 (ev.mono fun _ z => z.elim) R3 _ rfl
      | true =>
        rw [if_pos rfl] at hk2 ⊢
        have hk3 := Post0.later hk2 (ev.mono fun _ z => z.elim) (Sub.refl _)
        refine h6 σ H3 s2 _ ⟨R3, hb3⟩ (hk3.bnd.imp fun z0 s3 H4 _ e4 R4 S4 hk4 u hu => ?_)
        obtain ⟨e', ce', hk4⟩ := hk4.read R4.toRel0 (hw.ext (ev.ext.trans e4.ext))
        obtain ⟨f, cf, hk4⟩ := hk4.read R4.toRel0 hu
        exact v2_use R4.toRel0 R4.bnd ce' cf hk4
    | _ => exact hk2.elim
theorem dv_chain {op op' : CmpOp} {g h : D → D → Option D} {oa ob oc : Opd} (ho : OpR X (compareOp op) (rV2 X.K g)) (ho' : OpR X (compareOp op') (rV2 X.K h)) (ha : DO X ec E a oa) (hb : DO X ec E b ob) (hc : DO X ec E c oc) (hm : lastMarks [op, op'] [b, c] = false) :
    DV X ec E (.Compare a [op, op'] [b, c] pos) (chainV g h oa ob oc) := by
  obtain ⟨t, h1, _, h2⟩ := comes_chain (pos := pos) ho ho' ha hb hc hm
  exact DV.mk0 h1 h2
theorem comes_test {K : PySem.W.Frag} {m : M D} {t : TE} (h : Comes0 K ec E (RVal K) m t) : Comes0 K ec E RBl (tstM m) (tTest t) := fun σ H s Q hR hm => by
  refine h σ H s _ hR ?_
  unfold tstM bnd at hm
  revert hm
  cases m s with
  | none => exact fun z => z
  | some p =>
    obtain ⟨r, s'⟩ := p
    cases r with
    | err _ _ => exact fun z => z
    | ok d =>
      show Post0 K ec E σ H s _ (lift (blOf d) s') → _
      cases e : blOf d with
      | none => exact fun z => z.elim
      | some b => exact fun z H' a1 a2 a3 v hv => ⟨b, bl_at hv e, z H' a1 a2 a3 b rfl⟩
theorem dt_chain {op op' : CmpOp} {g h : D → D → Option D} {oa ob oc : Opd} (ho : OpR X (compareOp op) (rV2 X.K g)) (ho' : OpR X (compareOp op') (rV2 X.K h)) (ha : DO X ec E a oa) (hb : DO X ec E b ob) (hc : DO X ec E c oc) (hm : lastMarks [op, op'] [b, c] = false) :
    DT X ec E (.Compare a [op, op'] [b, c] pos) (tstM (chainV g h oa ob oc)) := by
  obtain ⟨t, _, h1, h2⟩ := comes_chain (pos := pos) ho ho' ha hb hc hm
  exact DT.mk0 h1 (comes_test h2)
end
end Dt

end
section
set_option maxRecDepth 100000
set_option autoImplicit false
/-! zip over lists and tuples in any mix. -/
namespace Dt
open PySem PySem.Spec PyProof.Rows L2

/-- a row at a: a tuple (true) or a list (false) -/
def SqX (K : PySem.W.Frag) (H : Hp) (t : Bool) (a : Addr) (xs : List V) : Prop := bif t then SqT K H a xs else SqL K H a xs
/-- its iterator -/
def itI (t : Bool) (it a : Addr) (i : Nat) (h : Heap) : Prop := bif t then h.IsTupleIter it a i else h.IsListIter it a i
def itL (t : Bool) (a : Addr) (vs : Array Value) (h : Heap) : Prop := bif t then h.IsTuple a vs else h.IsList a vs
def itO (t : Bool) (a : Addr) : Obj := bif t then { cls := .type "tuple_iterator", data := .fields #[.ref a, .int 0 0] } else { cls := .type "list_iterator", data := .fields #[.ref a, .int 0 0] }
theorem sqx_inv {X : Cx} {pins : List (Addr × Obj)} {σ : Sl} {H : Hp} {s : Shared} {t : Bool} {a : Addr} {xs : List V} (I : Inv X pins σ H s) (h : SqX X.K H t a xs) : ∃ us : List Value, Vals xs us ∧ itL t a us.toArray s.heap ∧ xs.length ≤ sizeLine := by
  cases t with
  | true =>
    obtain ⟨us, r, p, z⟩ := I.tuple h
    exact ⟨us, r, p, z⟩
  | false =>
    obtain ⟨us, r, p, z⟩ := I.list h
    exact ⟨us, r, p.isList, z⟩
theorem sqx_one {X : Cx} {pins : List (Addr × Obj)} {σ : Sl} {H : Hp} {s : Shared} {t : Bool} {a : Addr} {xs ys : List V} (I : Inv X pins σ H s) (h : SqX X.K H t a xs) (q : SqX X.K H t a ys) : xs = ys := by
  cases t with
  | true => exact I.tuple_inj h q
  | false => exact I.list_inj h q
theorem itI_obj {t : Bool} {it a : Addr} {i : Nat} {h : Heap} (st : itI t it a i h) : ∃ o, h.get? it = some o ∧ ∀ v, o.data ≠ .cell v := by
  cases t with
  | true => obtain ⟨o, e, _, d⟩ := (show h.IsTupleIter it a i from st); exact ⟨o, e, fun v q => by rw [d] at q; cases q⟩
  | false => obtain ⟨o, e, _, d⟩ := (show h.IsListIter it a i from st); exact ⟨o, e, fun v q => by rw [d] at q; cases q⟩
theorem itI_at {t : Bool} {it a : Addr} {i : Nat} {h h' : Heap} (st : itI t it a i h) (k : ∀ o, h.get? it = some o → h'.get? it = some o) : itI t it a i h' := by
  cases t with
  | true => exact (show h.IsTupleIter it a i from st).at fun o e => k o e
  | false => exact (show h.IsListIter it a i from st).at fun o e => k o e
theorem itL_lt {t : Bool} {a : Addr} {us : Array Value} {h : Heap} (st : itL t a us h) : a < h.objs.size := by
  cases t with
  | true => obtain ⟨o, e, _⟩ := (show h.IsTuple a us from st); exact Heap.lt_size e
  | false => obtain ⟨o, e, _⟩ := (show h.IsList a us from st); exact Heap.lt_size e
theorem itL_at {t : Bool} {a : Addr} {us : Array Value} {h h' : Heap} (st : itL t a us h) (k : ∀ o, h.get? a = some o → h'.get? a = some o) : itL t a us h' := by
  cases t with
  | true => exact (show h.IsTuple a us from st).at fun o e => k o e
  | false => exact (show h.IsList a us from st).at fun o e => k o e
theorem itX_begins (t : Bool) (a : Addr) (us : Array Value) : Begins (.ref a) (itO t a) (itL t a us) := by
  cases t with
  | true => exact begins_tuple a us
  | false => exact begins_list a us
theorem itX_draws {P : Program} {w : World} {A : Around} (hh : A.handled = none) (t : Bool) (it a : Addr) (hne : a ≠ it) (us : Array Value) :
    Draws P w A it [it, a] us.size (fun i v => us[i]? = some v) (fun i h => itI t it a i h ∧ itL t a us h) := by
  cases t with
  | true => exact Draws.tuple hh it a hne us
  | false => exact Draws.list hh it a hne us
theorem itX_ne {t : Bool} {it a : Addr} {i : Nat} {us : Array Value} {h : Heap} (k : itI t it a i h) (p : itL t a us h) : a ≠ it := fun e => by
  subst e
  cases t with
  | true =>
    obtain ⟨o1, e1, c1, _⟩ := (show h.IsTupleIter a a i from k)
    obtain ⟨o2, e2, c2, _⟩ := (show h.IsTuple a us from p)
    rw [e1] at e2; cases e2; rw [c1] at c2; injection c2 with q; exact absurd q (by decide)
  | false =>
    obtain ⟨o1, e1, c1, _⟩ := (show h.IsListIter a a i from k)
    obtain ⟨o2, e2, c2, _⟩ := (show h.IsList a us from p)
    rw [e1] at e2; cases e2; rw [c1] at c2; injection c2 with q; exact absurd q (by decide)
theorem itX_new {t : Bool} {it a : Addr} {h : Heap} (e : h.get? it = some (itO t a)) : itI t it a 0 h := by
  cases t with
  | true => exact ⟨_, e, rfl, rfl⟩
  | false => exact ⟨_, e, rfl, rfl⟩

/-- the rows at a and b as they stand at each turn, the items in new pairs -/
def ItzX (K : PySem.W.Frag) (t r : Bool) (a b : Addr) : It where
  go := fun i H => ∃ (xs ys : List V) (x y : V), SqX K H t a xs ∧ SqX K H r b ys ∧ xs[i]? = some x ∧ ys[i]? = some y
  yld := fun i H v H' => ∃ T x y, v = .ref T ∧ H T = none ∧ H' = upd H T (.tup [x, y]) ∧ (∀ xs, SqX K H t a xs → xs[i]? = some x) ∧ ∀ ys, SqX K H r b ys → ys[i]? = some y
  stop := fun i H => ∃ xs ys : List V, SqX K H t a xs ∧ SqX K H r b ys ∧ i ≤ xs.length ∧ i ≤ ys.length ∧ (xs.length = i ∨ ys.length = i)
theorem mem5 {c z TI TO i1 i2 : Addr} (h : c ∈ [z, TI, TO, i1, i2]) : c = z ∨ c = TI ∨ c = TO ∨ c = i1 ∨ c = i2 := by simpa using h
theorem turn_zipX {P : Program} {w : World} {K : PySem.W.Frag} {elts : List Expr} {kk : Nat} {tpos : Pos} {t r : Bool} {a b z TI TO i1 i2 : Addr} (D : ZipSep2 z TI TO i1 i2 [i1, a] [i2, b]) :
    Turn P w K (.Tuple elts kk tpos) (ItzX K t r a b) [z, TI, TO, i1, i2] z (fun i h => IsZip h z TI TO .none ∧ IsTupOf2 h TI (.ref i1) (.ref i2) ∧ (∃ x y, IsTupOf2 h TO x y) ∧ itI t i1 a i h ∧ itI r i2 b i h) where
  mem := by simp
  obj := fun i h st c hc => by
    obtain ⟨k1, k2, ⟨x, y, k3⟩, k4, k5⟩ := st
    rcases mem5 hc with e | e | e | e | e <;> subst e
    · exact ⟨_, k1, fun v q => nomatch q⟩
    · exact ⟨_, k2, fun v q => nomatch q⟩
    · exact ⟨_, k3, fun v q => nomatch q⟩
    · exact itI_obj k4
    · exact itI_obj k5
  keep := fun i h h' st k => by
    obtain ⟨k1, k2, ⟨x, y, k3⟩, k4, k5⟩ := st
    exact ⟨k z (by simp) _ k1, k TI (by simp) _ k2, ⟨x, y, k TO (by simp) _ k3⟩, itI_at k4 (k i1 (by simp)), itI_at k5 (k i2 (by simp))⟩
  item := by
    intro X hP hw hK hc i pins s σ H E I hf st hg
    subst hP hw hK
    obtain ⟨k1, k2, ⟨x0, y0, k3⟩, k4, k5⟩ := st
    obtain ⟨xs, ys, x, y, g1, g2, g3, g4⟩ := hg
    obtain ⟨us, v1, p1, _⟩ := sqx_inv I g1
    obtain ⟨ts, v2, p2, _⟩ := sqx_inv I g2
    have l1 := v1.length
    have l2 := v2.length
    have m1 : i < xs.length := (List.getElem?_eq_some_iff.mp g3).1
    have m2 : i < ys.length := (List.getElem?_eq_some_iff.mp g4).1
    obtain ⟨u, u1, ru⟩ := v1.get g3
    obtain ⟨u', u2, ru'⟩ := v2.get g4
    have n1 : a ≠ i1 := itX_ne k4 p1
    have n2 : b ≠ i2 := itX_ne k5 p2
    have hh : X.A.in1.handled = none := I.ok.hd hc
    refine wpAny_pyNext_zipD2_item D (itX_draws hh t i1 a n1 us.toArray) (itX_draws hh r i2 b n2 ts.toArray) k1 k2 k3 ⟨k4, p1⟩ ⟨k5, p2⟩ (by simp; omega) (by simp; omega) fun w1 w2 h' tk e1 e2 j1 j2 j3 j4 j5 j6 j7 => ?_
    have q1 : u = w1 := by
      have e1' : us.toArray[i]? = some w1 := e1
      have : us[i]? = some w1 := by simpa using e1'
      rw [u1] at this; exact Option.some.inj this
    have q2 : u' = w2 := by
      have e2' : ts.toArray[i]? = some w2 := e2
      have : ts[i]? = some w2 := by simpa using e2'
      rw [u2] at this; exact Option.some.inj this
    subst q1 q2
    refine ⟨_, rfl, wpAny_letOwnedTupleGo_zip (s := { s with heap := h', toks := tk }) j1 fun h2 z2 sb => ?_⟩
    have zl : z < s.heap.objs.size := Heap.lt_size k1
    have T2 : h2.get? s.heap.objs.size = some { cls := .type "tuple", data := .seq #[u, u'] } := (sb.2 _ (Nat.ne_of_gt zl)).trans j5
    have N : ObjOk X.prog X.w (upd H s.heap.objs.size (.tup [x, y])) h2 s.heap.objs.size (.tup [x, y]) := ⟨by show 2 ≤ sizeLine; decide, [u, u'], .cons ru (.cons ru' .nil), ⟨_, T2, rfl, _, rfl⟩⟩
    have up : ∀ c o, c ∉ [z, TI, TO, i1, i2] → s.heap.get? c = some o → h2.get? c = some o := fun c o hb q => by
      simp only [List.mem_cons, List.not_mem_nil, or_false, not_or] at hb
      exact (sb.2 c hb.1).trans (j7 c o hb.1 hb.2.2.1 hb.2.2.2.1 hb.2.2.2.2 q)
    have I1 : Inv X pins σ (upd H s.heap.objs.size (.tup [x, y])) { s with heap := h2, toks := tk } := I.turnedNew (t' := tk) (ch := [z, TI, TO, i1, i2]) up hf (Nat.le_refl _) N
    refine ⟨.ref s.heap.objs.size, _, I1, rfl, ⟨_, x, y, rfl, I.hok.fresh (Nat.le_refl _), rfl, fun l hl => by rw [sqx_one I hl g1]; exact g3, fun l hl => by rw [sqx_one I hl g2]; exact g4⟩, ⟨z2, ?_, ⟨u, u', ?_⟩, ?_, ?_⟩, fun c hcm => ?_⟩
    · exact (sb.2 _ D.TIz).trans (j7 _ _ D.TIz D.TITO D.TIi1 D.TIi2 k2)
    · exact (sb.2 _ D.TOz).trans j2
    · exact itI_at j3.1 fun o q => (sb.2 _ D.zi1.symm).trans q
    · exact itI_at j4.1 fun o q => (sb.2 _ D.zi2.symm).trans q
    · have lt : c < s.heap.objs.size := by
        rcases mem5 hcm with e | e | e | e | e <;> subst e
        · exact zl
        · exact Heap.lt_size k2
        · exact Heap.lt_size k3
        · obtain ⟨o, q, _⟩ := itI_obj k4; exact Heap.lt_size q
        · obtain ⟨o, q, _⟩ := itI_obj k5; exact Heap.lt_size q
      rw [upd_ne (Nat.ne_of_lt lt)]
      exact (hf c hcm).1
  done := by
    intro X hP hw hK hc i pins s σ H E I hf st hg
    subst hP hw hK
    obtain ⟨k1, k2, ⟨x0, y0, k3⟩, k4, k5⟩ := st
    obtain ⟨xs, ys, g1, g2, g3, g4, g5⟩ := hg
    obtain ⟨us, v1, p1, _⟩ := sqx_inv I g1
    obtain ⟨ts, v2, p2, _⟩ := sqx_inv I g2
    have l1 := v1.length
    have l2 := v2.length
    have n1 : a ≠ i1 := itX_ne k4 p1
    have n2 : b ≠ i2 := itX_ne k5 p2
    have hh : X.A.in1.handled = none := I.ok.hd hc
    exact wpAny_pyNext_zipD2_end D (itX_draws hh t i1 a n1 us.toArray) (itX_draws hh r i2 b n2 ts.toArray) k1 k2 k3 ⟨k4, p1⟩ ⟨k5, p2⟩ (by simp; omega) (by simp; omega) (by simp; omega) fun h' tk hk => ⟨rfl, I.turnedL (t' := tk) (ch := [z, TI, TO, i1, i2]) (fun c o hb q => by
      simp only [List.mem_cons, List.not_mem_nil, or_false, not_or] at hb
      exact hk c o hb.1 hb.2.2.1 hb.2.2.2.1 hb.2.2.2.2 q) hf⟩
  self := fun A i s Q E st h => wpAny_pyIter_zip st.1 h
def iZipX (K : PySem.W.Frag) (ta : TA) : TI := fun σ H R => ta σ H fun vs H1 => ∃ t r a b xs ys, vs = [.ref a, .ref b] ∧ SqX K H1 t a xs ∧ SqX K H1 r b ys ∧ R (ItzX K t r a b) H1
theorem pi_zipX {X : Cx} {e f : Expr} {ta : TA} {p pos tpos : Pos} {elts : List Expr} {kk : Nat} (hg : Gl X "zip") (hm : X.mg "zip" = none) (ha : PA X [e, f] ta)
    (hs : starEach [e, f] X.env = (false, eval e X.env) :: starEach [f] X.env) (hpl : (backTo pos (starEach [f] X.env)).any (·.1) = false) : PI X (.Tuple elts kk tpos) (.Call (.Name "zip" p) [e, f] [] pos) (iZipX X.K ta) := by
  refine ⟨fun pins s σ H R I h => ?_⟩
  refine Call_ (ld_blt I hg hm PyProof.Rows.boot_zip (PyProof.Rows.callWith_type1 (thn (ha.run pos pins s σ H _ I h) fun us s1 ⟨vs, H1, I1, r1, q1⟩ => ?_) hs hpl))
  obtain ⟨t, r, a, b, xs, ys, rfl, g1, g2, q⟩ := q1
  obtain ⟨u, us', rfl, ru, rr⟩ : ∃ u us', us = u :: us' ∧ RelV (.ref a) u ∧ Vals [.ref b] us' := by cases r1 with | cons r rr => exact ⟨_, _, rfl, r, rr⟩
  obtain ⟨u2, rfl, ru2⟩ : ∃ u, us' = [u] ∧ RelV (.ref b) u := by cases rr with | cons r rr => cases rr; exact ⟨_, rfl, r⟩
  cases (show u = Value.ref a from ru)
  cases (show u2 = Value.ref b from ru2)
  obtain ⟨ws, v1, p1, _⟩ := sqx_inv I1 g1
  obtain ⟨ts, v2, p2, _⟩ := sqx_inv I1 g2
  refine zip_begins2 (itX_begins t a ws.toArray) (itX_begins r b ts.toArray) p1 p2 fun h' k1 k2 k3 k4 k5 k6 k7 => wpAny_pyIter_zip k1 ?_
  have I2 : Inv X pins σ H1 { s1 with heap := h' } := I1.kept (t' := s1.toks) k7
  have fr : ∀ c, c ∈ [s1.heap.objs.size + 4, s1.heap.objs.size + 2, s1.heap.objs.size + 3, s1.heap.objs.size, s1.heap.objs.size + 1] → FpOk X pins H1 c := fun c hc => by
    have le : s1.heap.objs.size ≤ c := by
      rcases mem5 hc with e | e | e | e | e <;> subst e
      · exact Nat.le_add_right _ _
      · exact Nat.le_add_right _ _
      · exact Nat.le_add_right _ _
      · exact Nat.le_refl _
      · exact Nat.le_add_right _ _
    exact I1.fpOk le (I1.hok.fresh le)
  exact ⟨s1.heap.objs.size + 4, [s1.heap.objs.size + 4, s1.heap.objs.size + 2, s1.heap.objs.size + 3, s1.heap.objs.size, s1.heap.objs.size + 1], _, _, H1, rfl, I2, turn_zipX (zip_sep2 (fp1 := [a]) (fp2 := [b]) (fun c hc => by rw [List.mem_singleton.mp hc]; exact itL_lt p1) fun c hc => by rw [List.mem_singleton.mp hc]; exact itL_lt p2),
    ⟨k1, k2, ⟨_, _, k3⟩, itX_new k4, itX_new k5⟩, fr, q⟩

section
variable {X : Cx} {ec : EC} {E : L2.WX} {e f : Expr} {elts : List Expr} {pos p tpos : Pos} {kk : Nat}
def zipL : List D → List D → List D
  | d :: ds, e :: es => .tup [d, e] :: zipL ds es
  | _, _ => []
theorem zipL_len : ∀ ds es : List D, (zipL ds es).length = min ds.length es.length
  | [], es => by simp [zipL]
  | _ :: _, [] => by simp [zipL]
  | d :: ds, e :: es => by simp [zipL, zipL_len ds es]
theorem zipL_get : ∀ (ds es : List D) (j : Nat) (d : D), (zipL ds es)[j]? = some d → ∃ x y, ds[j]? = some x ∧ es[j]? = some y ∧ d = .tup [x, y]
  | [], es, j, d, h => by simp [zipL] at h
  | _ :: _, [], j, d, h => by simp [zipL] at h
  | x :: ds, y :: es, 0, d, h => by
    simp [zipL] at h
    exact ⟨x, y, rfl, rfl, h.symm⟩
  | x :: ds, y :: es, j + 1, d, h => by
    simp only [zipL, List.getElem?_cons_succ] at h
    obtain ⟨a, b, h1, h2, h3⟩ := zipL_get ds es j d h
    exact ⟨a, b, by simpa using h1, by simpa using h2, h3⟩
theorem SqX.ext {K : PySem.W.Frag} {H H' : Hp} {t : Bool} {a : Addr} {xs : List V} (h : SqX K H t a xs) (q : t = false → SqF H a xs) (e : Ext H H') : SqX K H' t a xs := by
  cases t with
  | true => exact SqT.ext h e
  | false => exact ((q rfl).ext e).sql
theorem zip_np {ds es : List D} {i : Nat} {u v : D} (hz : (ds.any isPr && es.any isPr) = false) (g1 : ds[i]? = some u) (g2 : es[i]? = some v) : pairsT [u, v] = false := by
  have a : isPr u = true → ds.any isPr = true := fun h => List.any_eq_true.mpr ⟨u, List.mem_of_getElem? g1, h⟩
  have b : isPr v = true → es.any isPr = true := fun h => List.any_eq_true.mpr ⟨v, List.mem_of_getElem? g2, h⟩
  show (isPr u && (isPr v && true)) = false
  cases c : isPr u with
  | false => rfl
  | true =>
    cases c2 : isPr v with
    | false => rfl
    | true => rw [a c, b c2] at hz; cases hz
theorem Walks.zip {K : PySem.W.Frag} {H : Hp} {t r : Bool} {a b : Addr} {xs ys : List V} {ds es : List D} (h1 : SqX K H t a xs) (f1 : t = false → SqF H a xs) (h2 : SqX K H r b ys) (f2 : r = false → SqF H b ys) (q1 : AtAll K H ds xs) (q2 : AtAll K H es ys) (bd : Bounded K H) (hz : (ds.any isPr && es.any isPr) = false) : Walks K (ItzX K t r a b) (zipL ds es) H where
  go := fun i H1 e hi => by
    rw [zipL_len] at hi
    obtain ⟨x, hx, _⟩ := q1.get (List.getElem?_eq_getElem (by omega : i < ds.length))
    obtain ⟨y, hy, _⟩ := q2.get (List.getElem?_eq_getElem (by omega : i < es.length))
    exact ⟨xs, ys, x, y, h1.ext f1 e, h2.ext f2 e, hx, hy⟩
  yld := fun i H1 x H2 e ⟨T, x1, y1, ex, hT, e2, hx, hy⟩ => by
    subst ex e2
    refine ⟨.new hT, fun z => pair_bd hT z, fun d hd => ?_⟩
    obtain ⟨u, v, g1, g2, g3⟩ := zipL_get ds es i d hd
    subst g3
    obtain ⟨w, hw, hat⟩ := (AtAll.ext e _ _ q1).get g1
    obtain ⟨w', hw', hat'⟩ := (AtAll.ext e _ _ q2).get g2
    rw [hx xs (h1.ext f1 e)] at hw
    rw [hy ys (h2.ext f2 e)] at hw'
    cases hw
    cases hw'
    exact pair_new hT hat hat' (zip_np hz g1 g2)
  stop := fun H1 e => ⟨xs, ys, h1.ext f1 e, h2.ext f2 e, by rw [zipL_len, q1.len]; omega, by rw [zipL_len, q2.len]; omega, by rw [zipL_len, q1.len, q2.len]; omega⟩
  line := by
    have : xs.length ≤ sizeLine := by
      cases t with
      | true => exact bd.seq a xs (.inr h1)
      | false => exact bd.seq a xs (.inl h1)
    rw [zipL_len]
    have := q1.len
    omega
def rowD : D → Option (Bool × List D)
  | .tup ds => some (true, ds)
  | .lst ds => some (false, ds)
  | _ => none
def zipA : List D → Option (List D)
  | [d, e] => (rowD d).bind fun x => (rowD e).bind fun y => if (x.2.any isPr && y.2.any isPr) = true then none else some (zipL x.2 y.2)
  | _ => none
theorem at_row {K : PySem.W.Frag} {H : Hp} {d : D} {v : V} {x : Bool × List D} (h : At K H d v) (e : rowD d = some x) : ∃ a xs, v = .ref a ∧ SqX K H x.1 a xs ∧ (x.1 = false → SqF H a xs) ∧ AtAll K H x.2 xs := by
  unfold rowD at e
  split at e
  · cases e
    unfold At at h
    obtain ⟨a, xs, rfl, h3, h4⟩ := h
    exact ⟨a, xs, rfl, h3.1, (fun z => nomatch z), h4⟩
  · cases e
    unfold At at h
    obtain ⟨a, xs, rfl, h3, h4⟩ := h
    exact ⟨a, xs, rfl, h3.sql, fun _ => h3, h4⟩
  · cases e
theorem di_zip {ms : M (List D)} (hg : Gl X "zip") (hm : X.mg "zip" = none) (ha : DA X ec E [e, f] ms) (hs : starEach [e, f] X.env = (false, eval e X.env) :: starEach [f] X.env) (hpl : (backTo pos (starEach [f] X.env)).any (·.1) = false) : DI X ec E (.Tuple elts kk tpos) (.Call (.Name "zip" p) [e, f] [] pos) (iterL zipA ms) := by
  obtain ⟨t, h1, h2⟩ := ha.run
  refine DI.mk0 (pi_zipX hg hm h1 hs hpl) fun σ H s Q hR hm => ?_
  refine h2 σ H s _ hR (hm.bnd.imp fun ds s1 H1 _ e1 R1 S1 hk vs hvs => ?_)
  obtain ⟨es, hd, hk⟩ := hk.lift
  unfold zipA at hd
  split at hd
  · rename_i d e'
    obtain ⟨x, hx, hd⟩ := Option.bind_eq_some_iff.mp hd
    obtain ⟨y, hy, hd⟩ := Option.bind_eq_some_iff.mp hd
    split at hd
    · cases hd
    rename_i hz
    cases hd
    have hz := Bool.eq_false_iff.mpr hz
    obtain ⟨v, r, rfl, a1, a2⟩ := hvs.inv
    obtain ⟨v', r', rfl, a3, a4⟩ := a2.inv
    rw [a4.inv0]
    obtain ⟨a, xs, rfl, b1, b2, b3⟩ := at_row a1 hx
    obtain ⟨b, ys, rfl, c1, c2, c3⟩ := at_row a3 hy
    exact ⟨x.1, y.1, a, b, xs, ys, rfl, b1, c1, hk H1 .refl R1.toRel0 _ (.zip b1 b2 c1 c2 b3 c3 R1.bnd hz)⟩
  · cases hd
end
end Dt

end
section
set_option maxRecDepth 100000
set_option autoImplicit false
/-! a module's own constants; list.index; sorted; dict(..), list(dict). -/
namespace Dt
open PySem PySem.Spec PyProof.Rows L2

/-! ### constants of the module -/
/-- the module's value u is worth d, whatever the heap -/
def KAt (K : PySem.W.Frag) (d : D) (u : Value) : Prop := ∃ v, RelV v u ∧ ∀ H, At K H d v
inductive KAll (K : PySem.W.Frag) : List D → List Value → Prop
  | nil : KAll K [] []
  | cons {d : D} {ds : List D} {u : Value} {us : List Value} : KAt K d u → KAll K ds us → KAll K (d :: ds) (u :: us)
theorem kat_int {K : PySem.W.Frag} (i : Int) (t : Tok) : KAt K (.int i) (.int i t) := ⟨.int i, ⟨t, rfl⟩, fun _ => rfl⟩
theorem kat_str {K : PySem.W.Frag} (x : Str) (t : Tok) : KAt K (.str x) (.str x t) := ⟨.str x, ⟨t, rfl⟩, fun _ => rfl⟩
theorem kat_bl {K : PySem.W.Frag} (b : Bool) : KAt K (.bl b) (.bool b) := ⟨.bl b, rfl, fun _ => rfl⟩
theorem kat_non {K : PySem.W.Frag} : KAt K .non .none := ⟨.non, rfl, fun _ => rfl⟩
theorem kall_at {K : PySem.W.Frag} {ds : List D} {us : List Value} (h : KAll K ds us) : ∃ xs, Vals xs us ∧ ∀ H, AtAll K H ds xs := by
  induction h with
  | nil => exact ⟨[], .nil, fun _ => .nil⟩
  | cons a _ ih =>
    obtain ⟨v, r, q⟩ := a
    obtain ⟨xs, r2, q2⟩ := ih
    exact ⟨v :: xs, .cons r r2, fun H => .cons (q H) (q2 H)⟩
/-- () of the module: no dict of its own -/
theorem kat_nil {K : PySem.W.Frag} {a : Addr} {us : Array Value} {n : Nat} {sl : Array (Option Value)} (l : K.lookup a = some ⟨.type "tuple", none, .seq us n, sl⟩) (hn : us.toList = []) : KAt K (.tup []) (.ref a) := by
  refine ⟨.ref a, rfl, fun H => ?_⟩
  unfold At
  have hz : us.size ≤ sizeLine := by
    have : us.size = 0 := by rw [← Array.length_toList, hn]; rfl
    rw [this]; exact Nat.zero_le _
  exact ⟨a, [], rfl, ⟨.inr ⟨_, us, n, l, rfl, rfl, hz, by rw [hn]; exact .nil⟩, (fun z => by cases z), fun _ => ⟨_, rfl, .inr l⟩⟩, .nil⟩
theorem kat_tup {K : PySem.W.Frag} {a : Addr} {od : Option Addr} {us : Array Value} {n : Nat} {sl : Array (Option Value)} {ds : List D} (l : K.lookup a = some ⟨.type "tuple", od, .seq us n, sl⟩) (h : KAll K ds us.toList) (hz : us.size ≤ sizeLine) (hk : keyT ds = false) (hn : pairsT ds = false) : KAt K (.tup ds) (.ref a) := by
  obtain ⟨xs, r, q⟩ := kall_at h
  refine ⟨.ref a, rfl, fun H => ?_⟩
  unfold At
  exact ⟨a, xs, rfl, ⟨.inr ⟨_, us, n, l, rfl, rfl, hz, r⟩, (fun z => by rw [hk] at z; cases z), (fun z => by rw [hn] at z; cases z)⟩, q H⟩
structure GlC (K : PySem.W.Frag) (mg : Str → Option Value) (x : Str) (d : D) : Prop where
  ex : ∃ u, mg x = some u ∧ KAt K d u
section
variable {X : Cx} {ec : EC} {E : L2.WX} {e : Expr} {x : Str} {pos : Pos} {d : D}
theorem dv_glob (hg : Gl X x) (g : GlC X.K X.mg x d) (hd : (x == ("__debug__" : Str)) = false) : DV X ec E (.Name x pos) (ret d) := by
  obtain ⟨u, h1, v, h2, h3⟩ := g.ex
  exact dv_c (pe_glob hg h1 h2 hd) h3
end

/-! ### list.index, plain items -/
def flatD : D → Bool
  | .non | .bl _ | .int _ | .str _ => true
  | _ => false
def idxD (k : D) : List D → Option Nat
  | [] => none
  | z :: zs => if eqvD z k = true then some 0 else (idxD k zs).map (· + 1)
def indexG : D → List D → Option D
  | .lst ds, [k] => if (flatD k && ds.all flatD) = true then (idxD k ds).map fun i => .int ((i : Nat) : Int) else none
  | _, _ => none
theorem flat_v {K : PySem.W.Frag} {H : Hp} {d e : D} {v w : V} (fd : flatD d = true) (fe : flatD e = true) (h : At K H d v) (q : At K H e w) : flatV v = true ∧ eqV v w = eqvD d e := by
  cases d <;> cases e <;> simp [flatD] at fd fe <;> (rw [show v = _ from h, show w = _ from q]; exact ⟨rfl, by simp [eqV, eqvD]⟩)
theorem idx_some {k : D} : ∀ {ds : List D} {i : Nat}, idxD k ds = some i → (∃ z, ds[i]? = some z ∧ eqvD z k = true) ∧ ∀ m z, m < i → ds[m]? = some z → eqvD z k = false
  | [], i, h => nomatch h
  | z :: zs, i, h => by
    unfold idxD at h
    split at h
    · rename_i e
      cases h
      exact ⟨⟨z, rfl, e⟩, fun m z q => absurd q (Nat.not_lt_zero _)⟩
    · rename_i e
      obtain ⟨j, h1, rfl⟩ := Option.map_eq_some_iff.mp h
      obtain ⟨h2, h3⟩ := idx_some h1
      refine ⟨by simpa using h2, fun m y q r => ?_⟩
      cases m with
      | zero => cases r; simpa using e
      | succ m => exact h3 m y (by omega) (by simpa using r)
section
variable {X : Cx}
theorem mt_indexV : MtR X "list.index" (rRead X.K indexG) := by
  intro pins s σ H x vs v us Q I rx rv h
  obtain ⟨d, ds, r, cd, hv, hg, hb, q⟩ := h
  unfold indexG at hg
  split at hg
  · rename_i zs k
    split at hg
    · rename_i hf
      obtain ⟨i, h1, h2⟩ := Option.map_eq_some_iff.mp hg
      subst h2
      rw [Bool.and_eq_true] at hf
      obtain ⟨y, ys, rfl, h3, h4⟩ := hv.inv
      rw [h4.inv0] at rv
      obtain ⟨a, xs, rfl, g1, g2⟩ := cd.lst
      obtain ⟨⟨z, j1, j2⟩, j3⟩ := idx_some h1
      obtain ⟨z', i1, i2⟩ := g2.get j1
      have fz := List.all_eq_true.mp hf.2
      refine mt_index pins s σ H _ [y] v us Q I rx rv ⟨a, xs, y, i, z', rfl, rfl, .inl g1, (flat_v hf.1 hf.1 h3 h3).1, List.all_eq_true.mpr fun w hw => ?_, i1, ?_, fun m w hm hw => ?_, ?_⟩
      · obtain ⟨n, hn, rfl⟩ := List.getElem_of_mem hw
        obtain ⟨e, e1, e2⟩ := g2.get' (List.getElem?_eq_getElem hn)
        exact (flat_v (fz e (List.mem_of_getElem? e1)) hf.1 e2 h3).1
      · rw [(flat_v (fz z (List.mem_of_getElem? j1)) hf.1 i2 h3).2]; exact j2
      · obtain ⟨e, e1, e2⟩ := g2.get' hw
        rw [(flat_v (fz e (List.mem_of_getElem? e1)) hf.1 e2 h3).2]; exact j3 m e hm e1
      · exact q _ _ .self rfl
    · cases hg
  · cases hg
end

/-! ### sorted -/
mutual
/-- a tree as the library's data -/
def pdD : D → PyData
  | .non => .none
  | .bl b => .bool b
  | .int i => .int i
  | .str x => .str x
  | .tup ds => .tuple (pdAll ds)
  | .lst ds => .list (pdAll ds)
  | .dic _ _ => .none
  | .scr _ => .none
  | .nst _ => .none
  | .exc _ _ _ _ => .none
def pdAll : List D → List PyData
  | [] => []
  | d :: ds => pdD d :: pdAll ds
end
section
variable {K : PySem.W.Frag} {H : Hp}
mutual
theorem at_dp : ∀ (d : D) (v : V), noDic d = true → At K H d v → Dp K H v (pdD d)
  | .non, v, _, h => by rw [show v = .non from h]; exact .non
  | .bl b, v, _, h => by rw [show v = .bl b from h]; exact .bl b
  | .int i, v, _, h => by rw [show v = .int i from h]; exact .int i
  | .str x, v, _, h => by rw [show v = .str x from h]; exact .str x
  | .tup ds, v, n, h => by
    unfold At at h
    obtain ⟨a, xs, rfl, h1, h2⟩ := h
    unfold pdD
    exact .tup h1.1 (at_dps ds xs (by simpa [noDic] using n) h2)
  | .lst ds, v, n, h => by
    unfold At at h
    obtain ⟨a, xs, rfl, h1, h2⟩ := h
    unfold pdD
    exact .lst h1.sql (at_dps ds xs (by simpa [noDic] using n) h2)
  | .dic _ _, _, n, _ => by simp [noDic] at n
  | .scr _, _, n, _ => by simp [noDic] at n
  | .nst _, _, n, _ => by simp [noDic] at n
  | .exc _ _ _ _, _, n, _ => by simp [noDic] at n
theorem at_dps : ∀ (ds : List D) (xs : List V), noDics ds = true → AtAll K H ds xs → DpAll K H xs (pdAll ds)
  | [], xs, _, h => by rw [h.inv0]; exact .nil
  | d :: ds, xs, n, h => by
    obtain ⟨x, r, rfl, h1, h2⟩ := h.inv
    have n : (noDic d && noDics ds) = true := by simpa [noDics] using n
    rw [Bool.and_eq_true] at n
    unfold pdAll
    exact .cons (at_dp d x n.1 h1) (at_dps ds r n.2 h2)
end
end
mutual
theorem pd_depth : ∀ d : D, (pdD d).depth ≤ deepD d
  | .non => by simp [pdD, PyData.depth]
  | .bl b => by simp [pdD, PyData.depth]
  | .int i => by simp [pdD, PyData.depth]
  | .str x => by simp [pdD, PyData.depth]
  | .tup ds => by have := pd_depths ds; simp [pdD, PyData.depth, deepD]; omega
  | .lst ds => by have := pd_depths ds; simp [pdD, PyData.depth, deepD]; omega
  | .dic _ kvs => by simp [pdD, PyData.depth]
  | .scr _ => by simp [pdD, PyData.depth]
  | .nst _ => by simp [pdD, PyData.depth]
  | .exc _ _ _ _ => by simp [pdD, PyData.depth]
theorem pd_depths : ∀ ds : List D, PyData.depthAll (pdAll ds) ≤ deepAll ds
  | [] => by simp [pdAll, PyData.depthAll]
  | d :: ds => by have := pd_depth d; have := pd_depths ds; simp [pdAll, PyData.depthAll, deepAll]; omega
end
theorem pdAll_map : ∀ ds : List D, pdAll ds = ds.map pdD
  | [] => rfl
  | d :: ds => by rw [pdAll, pdAll_map ds]; rfl
theorem noDics_mem : ∀ {ds : List D} {d : D}, noDics ds = true → d ∈ ds → noDic d = true
  | x :: xs, d, h, m => by
    have h : (noDic x && noDics xs) = true := by simpa [noDics] using h
    rw [Bool.and_eq_true] at h
    rcases List.mem_cons.mp m with e | e
    · rw [e]; exact h.1
    · exact noDics_mem h.2 e
theorem deepAll_mem : ∀ {ds : List D} {d : D}, d ∈ ds → deepD d ≤ deepAll ds
  | x :: xs, d, m => by
    rw [deepAll]
    rcases List.mem_cons.mp m with e | e
    · rw [e]; omega
    · have := deepAll_mem e; omega
/-! ### sorted: tuples with unlike texts ahead -/
section heads
open PySem.W PySem.Calls
def hdP : PyData → PyData
  | .tuple (x :: _) => x
  | d => d
structure HeadsP (ds : List PyData) : Prop where
  tup : ∀ d, d ∈ ds → ∃ x r, d = .tuple (.str x :: r)
  self : ∀ d, d ∈ ds → alike d d = true
  uniq : ∀ d, d ∈ ds → ∀ d', d' ∈ ds → hdP d = hdP d' → d = d'
theorem reads_head {h : Heap} {v : Value} {x y : Str} {r t : List PyData} {as bs : List Addr} (p : Reads h v (.tuple (.str x :: r)) as) (q : Reads h v (.tuple (.str y :: t)) bs) : x = y := by
  cases p with
  | @tuple a o xs n _ _ h1 h2 h3 h4 =>
    cases q with
    | @tuple a' o' xs' n' _ _ k1 k2 k3 k4 =>
      rw [h1] at k1
      cases k1
      rw [h3] at k3
      cases k3
      generalize xs.toList = l at h4 k4
      cases h4 with
      | cons a b =>
        cases k4 with
        | cons c d =>
          cases a
          cases c
          rfl
theorem reads_uniq {h : Heap} {ds : List PyData} (P : HeadsP ds) {v : Value} {d d' : PyData} {as bs : List Addr} (hd : d ∈ ds) (hd' : d' ∈ ds) (p : Reads h v d as) (q : Reads h v d' bs) : d = d' := by
  refine P.uniq d hd d' hd' ?_
  obtain ⟨x, r, rfl⟩ := P.tup d hd
  obtain ⟨y, t, rfl⟩ := P.tup d' hd'
  rw [reads_head p q]
  rfl
noncomputable def headKind (h : Heap) (ds : List PyData) : PyProof.Rows.KeyKind where
  toKeyOrd := listOrd itemOrd
  keyOf v := open Classical in if q : ∃ d, d ∈ ds ∧ ∃ as, Reads h v d as then some (keyToks (hdP q.choose)) else none
  dflt := ([] : List (Int ⊕ List Nat))
theorem headKind_some {h : Heap} {ds : List PyData} (P : HeadsP ds) {v : Value} {d : PyData} {as : List Addr} (hd : d ∈ ds) (r : Reads h v d as) : (headKind h ds).keyOf v = some (keyToks (hdP d)) := by
  have q : ∃ d, d ∈ ds ∧ ∃ as, Reads h v d as := ⟨d, hd, as, r⟩
  have e : (headKind h ds).keyOf v = some (keyToks (hdP q.choose)) := by
    show (open Classical in if q : ∃ d, d ∈ ds ∧ ∃ as, Reads h v d as then some (keyToks (hdP q.choose)) else none) = _
    rw [dif_pos q]
  obtain ⟨h1, as', h2⟩ := q.choose_spec
  rw [e, reads_uniq P h1 hd h2 r]
theorem headKind_inv {h : Heap} {ds : List PyData} {v : Value} {k : List (Int ⊕ List Nat)} (e : (headKind h ds).keyOf v = some k) : ∃ d as, d ∈ ds ∧ Reads h v d as ∧ k = keyToks (hdP d) := by
  by_cases q : ∃ d, d ∈ ds ∧ ∃ as, Reads h v d as
  · have e' : (headKind h ds).keyOf v = some (keyToks (hdP q.choose)) := by
      show (open Classical in if q : ∃ d, d ∈ ds ∧ ∃ as, Reads h v d as then some (keyToks (hdP q.choose)) else none) = _
      rw [dif_pos q]
    obtain ⟨h1, as', h2⟩ := q.choose_spec
    rw [e'] at e
    exact ⟨_, as', h1, h2, (Option.some.inj e).symm⟩
  · have e' : (headKind h ds).keyOf v = none := by
      show (open Classical in if q : ∃ d, d ∈ ds ∧ ∃ as, Reads h v d as then some (keyToks (hdP q.choose)) else none) = _
      rw [dif_neg q]
      rfl
    rw [e'] at e
    exact absurd e (by simp)
theorem sorts_heads {prog : Program} {w : World} {A : Around} {s : Shared} {vs : List Value} {ds : List PyData} (e : EachIs (fun v d => ∃ as, Reads s.heap v d as) vs ds) (P : HeadsP ds) (hu : ∀ d, d ∈ ds → A.units + d.depth < cLine) : SortsAt prog w A s (headKind s.heap ds) vs := by
  refine ⟨fun v hv => ?_, tuples' true, ?_, fun h2 E Q hq => ?_⟩
  · obtain ⟨d, hd, as, r⟩ := e.left v hv
    exact ⟨_, headKind_some P hd r⟩
  · intro E x y a b Q ha hb hq
    obtain ⟨d, as, hd, ra, rfl⟩ := headKind_inv ha
    obtain ⟨d', bs, hd', rb, rfl⟩ := headKind_inv hb
    have hq' : Q (lexLt itemOrd (keyToks (hdP d)) (keyToks (hdP d'))) s := hq
    have ud := hu d hd
    by_cases hh : d = d'
    · subst hh
      have hal := P.self d hd
      obtain ⟨x1, r1, rfl⟩ := P.tup d hd
      rw [lex_irrefl] at hq'
      cases ra with
      | @tuple l o xs n _ _ h1 h2 h3 h4 =>
        cases rb with
        | @tuple l' o' xs' n' _ _ k1 k2 k3 k4 =>
          have n1 : xs.size = (PyData.str x1 :: r1).length := by simpa using SeqAt.ReadsAll.length _ _ _ h4
          have n2 : xs'.size = (PyData.str x1 :: r1).length := by simpa using SeqAt.ReadsAll.length _ _ _ k4
          refine kat_lt h1 h3 k1 k3 (katLex_alike _ _ 0 _ _ _ _ h4 k4 (by simpa [alike] using hal) (by
            have q : (PyData.tuple (PyData.str x1 :: r1)).depth = 1 + PyData.depthAll (PyData.str x1 :: r1) ∨ (PyData.tuple (PyData.str x1 :: r1)).depth = PyData.depthAll (PyData.str x1 :: r1) + 1 := by first | (left; simp [PyData.depth]; done) | (right; simp [PyData.depth]; done)
            omega) (fun _ _ x r t ex => ?_) (by rw [n1, n2]) (by rw [lex_irrefl]; exact hq'))
          cases ex
          exact PyData.noConfusion
    · have hne : hdP d ≠ hdP d' := fun z => hh (P.uniq d hd d' hd' z)
      obtain ⟨x1, r1, rfl⟩ := P.tup d hd
      obtain ⟨x2, r2, rfl⟩ := P.tup d' hd'
      have hne' : x1 ≠ x2 := fun z => hne (by rw [z]; rfl)
      cases ra with
      | @tuple l o xs n _ _ h1 h2 h3 h4 =>
        cases rb with
        | @tuple l' o' xs' n' _ _ k1 k2 k3 k4 =>
          refine kat_lt h1 h3 k1 k3 ?_
          generalize xs.toList = lx at h4
          generalize xs'.toList = ly at k4
          cases h4 with
          | cons a1 a2 =>
            cases k4 with
            | cons c1 c2 =>
              rw [List.zip_cons_cons]
              have hr : A.units + min (PyData.str x1).depth (PyData.str x2).depth < cLine := by
                have : (PyData.str x1).depth = 0 := by simp [PyData.depth]
                rw [this]
                omega
              refine kat_cons (eqAt_alike (.str x1) (.str x2) A s _ _ _ _ a1 c1 (by simp [alike]) hr _ _ _ _ ?_)
              have hx : PyData.eqv (.str x1) (.str x2) = false := by
                simp [PyData.eqv, hne']
              rw [hx]
              exact kat_no (oneLt_alike (fun _ t => PyData.noConfusion) a1 c1 (by simp [alike]) (by simp) hr hq')
  · obtain ⟨fs, t1, t2, t3⟩ := each_katTups e fun d hd => let ⟨x, r, q⟩ := P.tup d hd; ⟨_, r, q⟩
    refine kat_kind (T := .type "str") t1 (by omega) (fun f hf => ?_) (beq_self_eq_true _) (show Q (tuples' ((Value.type "str") != Value.type "tuple")) s from hq)
    obtain ⟨x, r, as, m1, m2⟩ := t3 f hf
    obtain ⟨y, t, q⟩ := P.tup _ m1
    cases q
    exact looks_reads m2
/-- sorted(xs), xs tuples with unlike texts ahead -/
theorem sorted_heads {prog : Program} {w : World} {A : Around} {E : Value → Shared → Prop} {s : Shared} {β : Type} {vs : List Value} {bs : List β} {enc : β → PyData} {R : Value → β → Prop} {l : Addr} {Q : Value → Shared → Prop} (hl : s.heap.IsList l vs.toArray) (e : EachIs R vs bs) (er : EachIs (fun v b => ∃ as, Reads s.heap v (enc b) as) vs bs) (P : HeadsP (bs.map enc)) (hL : bs.length ≤ sizeLine)
    (hu : ∀ b, b ∈ bs → A.units + 2 + (enc b).depth < cLine) (h : ∀ out, out.length = bs.length → EachIs R out (bs.mergeSort (dataLe false fun b => hdP (enc b))) → Q (.ref (s.heap.objs.size + 1)) { s with heap := sortedAll s.heap vs (List.toArray out) }) :
    wpAny (model prog w) A (call (.builtin "sorted") [.ref l]) Q E s := by
  have er' : EachIs (fun v b => ∃ as, Reads (sortingHeap (copyHeap s.heap vs) (s.heap.objs.size + 1) vs) v (enc b) as) vs bs := er.mono fun _ _ ⟨as, r⟩ => ⟨as, PyProof.Rows.Reads.keeps (fun _ _ => sorting_copy_old) r⟩
  refine sorted_vals hl (sorts_heads (s := { s with heap := sortingHeap (copyHeap s.heap vs) (s.heap.objs.size + 1) vs }) (PySem.W.each_map (R := fun v d => ∃ as, Reads (sortingHeap (copyHeap s.heap vs) (s.heap.objs.size + 1) vs) v d as) enc er') P (bound_map hu)) (by rw [e.length]; exact hL)
    (h _ (by rw [sortVals_length false rfl]; exact e.length) ?_)
  refine sortVals_each (κ := headKind (sortingHeap (copyHeap s.heap vs) (s.heap.objs.size + 1) vs) (bs.map enc)) (fun b => keyToks (hdP (enc b))) e ?_
  have em := each_mem er'
  exact em.mono fun v b ⟨⟨as, r⟩, m⟩ => headKind_some P (List.mem_map.mpr ⟨b, m, rfl⟩) r
end heads
theorem inj_of_nodup {α β : Type} {f : α → β} : ∀ {l : List α} {x y : α}, (l.map f).Nodup → x ∈ l → y ∈ l → f x = f y → x = y
  | a :: l, x, y, h, hx, hy, e => by
    rw [List.map_cons] at h
    obtain ⟨n1, n2⟩ := List.nodup_cons.mp h
    rcases List.mem_cons.mp hx with hx1 | hx1
    · rcases List.mem_cons.mp hy with hy1 | hy1
      · rw [hx1, hy1]
      · exact absurd (List.mem_map.mpr ⟨y, hy1, by rw [← e, hx1]⟩) n1
    · rcases List.mem_cons.mp hy with hy1 | hy1
      · exact absurd (List.mem_map.mpr ⟨x, hx1, by rw [e, hy1]⟩) n1
      · exact inj_of_nodup n2 hx1 hy1 e
/-- how Python orders alike data -/
def sleD (d e : D) : Bool := !PySem.W.dataLt (pdD e) (pdD d)
def tup1 : D → Bool
  | .tup (_ :: _) => true
  | _ => false
def notTup : D → Bool
  | .tup _ | .non | .dic _ _ | .scr _ | .nst _ | .exc _ _ _ _ => false
  | _ => true
def sortOk (ds : List D) : Bool := noDics ds && ((ds.all fun d => ds.all fun e => PySem.W.alike (pdD d) (pdD e)) && ((ds.all tup1 || ds.all notTup) && decide (deepAll ds ≤ 60)))
def headD : D → D
  | .tup (d :: _) => d
  | d => d
def headS : D → Option Str
  | .tup (.str x :: _) => some x
  | _ => none
def leHd (d e : D) : Bool := sleD (headD d) (headD e)
/-- tuples with unlike texts ahead -/
def headOk (ds : List D) : Bool := noDics ds && ((ds.all fun d => (headS d).isSome) && (decide ((ds.map headS).Nodup) && decide (deepAll ds ≤ 60)))
mutual
theorem alike_refl : ∀ d : D, PySem.W.alike (pdD d) (pdD d) = true
  | .non => by simp [pdD, PySem.W.alike]
  | .bl b => by simp [pdD, PySem.W.alike]
  | .int i => by simp [pdD, PySem.W.alike]
  | .str x => by simp [pdD, PySem.W.alike]
  | .tup ds => by simp only [pdD, PySem.W.alike]; exact alike_refls ds
  | .lst ds => by simp only [pdD, PySem.W.alike]; exact alike_refls ds
  | .dic _ _ => by simp [pdD, PySem.W.alike]
  | .scr _ => by simp [pdD, PySem.W.alike]
  | .nst _ => by simp [pdD, PySem.W.alike]
  | .exc _ _ _ _ => by simp [pdD, PySem.W.alike]
theorem alike_refls : ∀ ds : List D, PySem.W.alikeAll (pdAll ds) (pdAll ds) = true
  | [] => by simp [pdAll, PySem.W.alikeAll]
  | d :: ds => by simp only [pdAll, PySem.W.alikeAll, alike_refl d, alike_refls ds]; rfl
end
theorem hd_pd (d : D) : hdP (pdD d) = pdD (headD d) := by
  unfold headD
  split
  · rw [pdD, pdAll]; rfl
  · rename_i h
    cases d with
    | tup ds =>
      cases ds with
      | nil => rw [pdD, pdAll]; rfl
      | cons x r => exact absurd rfl (h x r)
    | _ => simp [pdD, hdP]
theorem heads_of {ds : List D} (h : headOk ds = true) : HeadsP (ds.map pdD) ∧ noDics ds = true ∧ deepAll ds ≤ 60 := by
  unfold headOk at h
  simp only [Bool.and_eq_true, decide_eq_true_eq] at h
  obtain ⟨h1, h2, h3, h4⟩ := h
  have hd : ∀ d, d ∈ ds → ∃ x r, d = .tup (.str x :: r) := by
    intro d m
    have := List.all_eq_true.mp h2 d m
    unfold headS at this
    split at this
    · exact ⟨_, _, rfl⟩
    · cases this
  refine ⟨⟨fun d m => ?_, fun d m => ?_, fun d m d' m' e => ?_⟩, h1, h4⟩
  · obtain ⟨x, hx, rfl⟩ := List.mem_map.mp m
    obtain ⟨y, r, rfl⟩ := hd x hx
    exact ⟨y, pdAll r, by rw [pdD, pdAll, pdD]⟩
  · obtain ⟨x, hx, rfl⟩ := List.mem_map.mp m
    exact alike_refl x
  · obtain ⟨x, hx, rfl⟩ := List.mem_map.mp m
    obtain ⟨y, hy, rfl⟩ := List.mem_map.mp m'
    obtain ⟨a, r, rfl⟩ := hd x hx
    obtain ⟨b, t, rfl⟩ := hd y hy
    have e' : a = b := by
      simpa [pdD, pdAll, hdP] using e
    have : D.tup (.str a :: r) = D.tup (.str b :: t) := by
      refine inj_of_nodup h3 hx hy ?_
      rw [e']
      rfl
    rw [this]
def strsD : List (DK × D) → Option (List Str)
  | [] => some []
  | (.str x, _) :: r => (strsD r).map (x :: ·)
  | _ => none
/-- texts by their signs -/
def leStr (x y : Str) : Bool := decide (x.cps.toList ≤ y.cps.toList)
def sortedD : List D → Option RV
  | [.lst ds] => if sortOk ds = true then some (.own (.lst (ds.mergeSort sleD))) else if headOk ds = true then some (.own (.lst (ds.mergeSort leHd))) else none
  | [.dic false kvs] => (strsD kvs).bind fun ks => if ks.length < 64 then some (.own (.lst ((ks.mergeSort leStr).map D.str))) else none
  | _ => none
section
variable {X : Cx} {pins : List (Addr × Obj)} {σ : Sl} {H : Hp} {s : Shared}
theorem each_at {K : PySem.W.Frag} : ∀ {ds : List D} {xs : List V} {us : List Value}, AtAll K H ds xs → Vals xs us → PySem.W.EachIs (fun u d => ∃ v, RelV v u ∧ At K H d v) us ds
  | [], _, us, h, r => by rw [h.inv0] at r; cases r; exact .nil
  | d :: ds, _, us, h, r => by
    obtain ⟨x, t, rfl, h1, h2⟩ := h.inv
    cases r with
    | cons a b => exact .cons ⟨x, a, h1⟩ (each_at h2 b)
theorem at_each {K : PySem.W.Frag} : ∀ {ds : List D} {us : List Value}, PySem.W.EachIs (fun u d => ∃ v, RelV v u ∧ At K H d v) us ds → ∃ xs, Vals xs us ∧ AtAll K H ds xs
  | [], us, h => by cases h; exact ⟨[], .nil, .nil⟩
  | d :: ds, us, h => by
    cases h with
    | cons a b =>
      obtain ⟨v, r, q⟩ := a
      obtain ⟨xs, r2, q2⟩ := at_each b
      exact ⟨v :: xs, .cons r r2, .cons q q2⟩
theorem each_mono {α β : Type} {R S : α → β → Prop} : ∀ {as : List α} {bs : List β}, PySem.W.EachIs R as bs → (∀ a b, b ∈ bs → R a b → S a b) → PySem.W.EachIs S as bs
  | [], [], _, _ => .nil
  | a :: as, b :: bs, h, i => by
    cases h with
    | cons x y => exact .cons (i a b List.mem_cons_self x) (each_mono y fun a' b' m => i a' b' (List.mem_cons_of_mem _ m))
theorem strs_ok {K : PySem.W.Frag} : ∀ {kvs : List (DK × D)} {ks : List Str} {es : List (Key × V)}, strsD kvs = some ks → AtK K H kvs es → es.map (·.1) = ks.map Sum.inr
  | [], ks, es, e, h => by cases e; rw [h.inv0]; rfl
  | (k, d) :: r, ks, es, e, h => by
    obtain ⟨k', x, r', rfl, hk, h1, h2⟩ := h.inv
    cases k with
    | str y =>
      have e : (strsD r).map (y :: ·) = some ks := e
      obtain ⟨zs, e1, rfl⟩ := Option.map_eq_some_iff.mp e
      cases k' with
      | inl i => cases hk
      | inr z =>
        cases hk
        rw [List.map_cons, List.map_cons, strs_ok e1 h2]
    | int i => cases e
    | tup l => cases e
theorem at_strs {K : PySem.W.Frag} : ∀ ks : List Str, AtAll K H (ks.map D.str) (ks.map V.str)
  | [] => .nil
  | k :: ks => .cons rfl (at_strs ks)
theorem leStr_tot (x y : Str) : (leStr x y || leStr y x) = true := by
  unfold leStr
  simp only [Bool.or_eq_true, decide_eq_true_eq]
  exact List.le_total _ _
theorem leStr_trans (x y z : Str) (h : leStr x y = true) (q : leStr y z = true) : leStr x z = true := by
  unfold leStr at *
  simp only [decide_eq_true_eq] at *
  exact List.le_trans h q
theorem leStr_anti {x y : Str} (h : leStr x y = true) (q : leStr y x = true) : x = y := by
  unfold leStr at *
  simp only [decide_eq_true_eq] at *
  exact PySem.W.str_of_cps (List.le_antisymm h q)
theorem perm_uniq {α : Type} {le : α → α → Bool} (anti : ∀ x y, le x y = true → le y x = true → x = y) : ∀ {l m : List α}, l.Perm m → l.Pairwise (fun a b => le a b = true) → m.Pairwise (fun a b => le a b = true) → l = m
  | [], m, p, _, _ => (List.Perm.nil_eq p)
  | a :: l, [], p, _, _ => nomatch p.symm.nil_eq
  | a :: l, b :: m, p, h, q => by
    have h' := List.pairwise_cons.mp h
    have q' := List.pairwise_cons.mp q
    have e : a = b := by
      have m1 : a ∈ b :: m := p.subset List.mem_cons_self
      have m2 : b ∈ a :: l := p.symm.subset List.mem_cons_self
      rcases List.mem_cons.mp m1 with e | e
      · exact e
      · rcases List.mem_cons.mp m2 with e' | e'
        · exact e'.symm
        · exact anti a b (h'.1 b e') (q'.1 a e)
    subst e
    rw [perm_uniq anti (List.Perm.cons_inv p) h'.2 q'.2]
theorem rising_pw : ∀ {r : List Str} {x : Str}, risingS x r = true → (x :: r).Pairwise (fun a b => leStr a b = true)
  | [], x, _ => List.pairwise_singleton _ _
  | y :: r, x, h => by
    have h : (!PySem.Spec.ltCps y.cps.toList x.cps.toList && risingS y r) = true := h
    rw [Bool.and_eq_true] at h
    have a : leStr x y = true := by
      have := h.1
      rw [PyProof.Rows.ltCps_eq] at this
      unfold leStr
      simp only [Bool.not_eq_true', decide_eq_false_iff_not] at this
      exact decide_eq_true (List.not_lt.mp this)
    have b := rising_pw h.2
    refine List.pairwise_cons.mpr ⟨fun z m => ?_, b⟩
    rcases List.mem_cons.mp m with e | e
    · rw [e]; exact a
    · exact leStr_trans x y z a ((List.pairwise_cons.mp b).1 z e)
theorem sortedS_pw {l : List Str} (h : sortedS l = true) : l.Pairwise (fun a b => leStr a b = true) := by
  cases l with
  | nil => exact .nil
  | cons x r => exact rising_pw h
theorem sort_strs {ys ks : List Str} (p : ys.Perm ks) (h : sortedS ys = true) : ys = ks.mergeSort leStr :=
  perm_uniq (le := leStr) (fun _ _ => leStr_anti) (p.trans (List.mergeSort_perm ks leStr).symm) (sortedS_pw h) (List.pairwise_mergeSort leStr_trans leStr_tot ks)
theorem alike_of {ds : List D} (h : sortOk ds = true) : PySem.W.AllAlike (ds.map pdD) ∧ PySem.W.Sortable (ds.map pdD) ∧ noDics ds = true ∧ deepAll ds ≤ 60 := by
  unfold sortOk at h
  simp only [Bool.and_eq_true, Bool.or_eq_true, decide_eq_true_eq] at h
  obtain ⟨h1, h2, h3, h4⟩ := h
  refine ⟨fun d hd d' hd' => ?_, ?_, h1, h4⟩
  · obtain ⟨x, hx, rfl⟩ := List.mem_map.mp hd
    obtain ⟨y, hy, rfl⟩ := List.mem_map.mp hd'
    exact List.all_eq_true.mp (List.all_eq_true.mp h2 x hx) y hy
  · rcases h3 with h | h
    · refine .inl fun d hd => ?_
      obtain ⟨x, hx, rfl⟩ := List.mem_map.mp hd
      have := List.all_eq_true.mp h x hx
      unfold tup1 at this
      split at this
      · rename_i y r
        exact ⟨pdD y, pdAll r, by rw [pdD, pdAll]⟩
      · cases this
    · refine .inr fun d hd => ?_
      obtain ⟨x, hx, rfl⟩ := List.mem_map.mp hd
      have := List.all_eq_true.mp h x hx
      cases x <;> simp [notTup] at this <;> simp [pdD]
theorem call_sortedV (hc : X.calm = true) (hu : X.A.units + 64 < cLine) : CallR X (.builtin "sorted") (rCn X.K sortedD) := by
  intro pins s σ H vs us Q I rv h
  obtain ⟨ds, r, hcs, hg, hb, hq⟩ := h
  unfold sortedD at hg
  split at hg
  · rename_i es
    split at hg
    · rename_i hf
      cases hg
      obtain ⟨v, rfl, cv⟩ := ctAll1 hcs
      obtain ⟨a, xs, rfl, h3, h4⟩ := cv.lst
      obtain ⟨u, rfl, ru⟩ := vals1 rv
      cases (show u = Value.ref a from ru)
      obtain ⟨its, r1, pl, hz⟩ := I.list (.inl h3)
      obtain ⟨k1, k2, k3, k4⟩ := alike_of hf
      have E := each_at h4 r1
      have er : PySem.W.EachIs (fun u d => ∃ as, Reads s.heap u (pdD d) as) its es := each_mono E fun u d m ⟨w, rw', q⟩ => Dp.reads I (pdD d) w u (at_dp d w (noDics_mem k3 m) q) rw'
      have hl : its.length = es.length := by rw [← r1.length, h4.len]
      refine PySem.W.sorted_data (enc := pdD) pl.isList E er k1 k2 (by rw [← hl, ← r1.length]; exact hz) (fun d m => ?_) fun out ho ho2 => ?_
      · have a1 := pd_depth d
        have a2 := deepAll_mem m
        show _ + 2 + _ < _
        have : X.A.units + 64 < cLine := hu
        omega
      · obtain ⟨ys, r2, q2⟩ := at_each ho2
        have hlen : ys.length ≤ sizeLine := by rw [r2.length, ho, ← hl, ← r1.length]; exact hz
        obtain ⟨ep, he'⟩ := PyProof.Rows.sortedAll_at s.heap its out.toArray
        exact ⟨.ref _, upd H (s.heap.objs.size + 1) (.lst ys), I.laid (t' := s.toks) (fun _ _ => PyProof.Rows.sortedAll_old) (Nat.le_succ _) ⟨hlen, out, ep, r2, he'⟩, rfl, hq _ _ (.new (I.hok.fresh (Nat.le_succ _))) (new_own_lst (I.hok.fresh (Nat.le_succ _)) q2)⟩
    · split at hg
      · rename_i hf
        cases hg
        obtain ⟨v, rfl, cv⟩ := ctAll1 hcs
        obtain ⟨a, xs, rfl, h3, h4⟩ := cv.lst
        obtain ⟨u, rfl, ru⟩ := vals1 rv
        cases (show u = Value.ref a from ru)
        obtain ⟨its, r1, pl, hz⟩ := I.list (.inl h3)
        obtain ⟨k1, k3, k4⟩ := heads_of hf
        have E := each_at h4 r1
        have er : PySem.W.EachIs (fun u d => ∃ as, Reads s.heap u (pdD d) as) its es := each_mono E fun u d m ⟨w, rw', q⟩ => Dp.reads I (pdD d) w u (at_dp d w (noDics_mem k3 m) q) rw'
        have hl : its.length = es.length := by rw [← r1.length, h4.len]
        refine sorted_heads (enc := pdD) pl.isList E er k1 (by rw [← hl, ← r1.length]; exact hz) (fun d m => ?_) fun out ho ho2 => ?_
        · have a1 := pd_depth d
          have a2 := deepAll_mem m
          show _ + 2 + _ < _
          have : X.A.units + 64 < cLine := hu
          omega
        · have ho2 : PySem.W.EachIs (fun u d => ∃ v, RelV v u ∧ At X.K H d v) out (es.mergeSort leHd) := by
            have ee : (PySem.W.dataLe false fun b : D => hdP (pdD b)) = leHd := by
              funext a b
              show (!PySem.W.dataLt (hdP (pdD b)) (hdP (pdD a))) = (!PySem.W.dataLt (pdD (headD b)) (pdD (headD a)))
              rw [hd_pd, hd_pd]
            rw [ee] at ho2
            exact ho2
          obtain ⟨ys, r2, q2⟩ := at_each ho2
          have hlen : ys.length ≤ sizeLine := by rw [r2.length, ho, ← hl, ← r1.length]; exact hz
          obtain ⟨ep, he'⟩ := PyProof.Rows.sortedAll_at s.heap its out.toArray
          exact ⟨.ref _, upd H (s.heap.objs.size + 1) (.lst ys), I.laid (t' := s.toks) (fun _ _ => PyProof.Rows.sortedAll_old) (Nat.le_succ _) ⟨hlen, out, ep, r2, he'⟩, rfl, hq _ _ (.new (I.hok.fresh (Nat.le_succ _))) (new_own_lst (I.hok.fresh (Nat.le_succ _)) q2)⟩
      · cases hg
  · rename_i kvs
    obtain ⟨ks, e1, e2⟩ := Option.bind_eq_some_iff.mp hg
    split at e2
    · rename_i h64
      cases e2
      obtain ⟨v, rfl, cv⟩ := ctAll1 hcs
      obtain ⟨a, es, rfl, h3, h4⟩ := cv.dicK
      refine call_sortedD hc pins s σ H _ us Q I rv ⟨a, es, ks, rfl, h3, strs_ok e1 h4, h64, fun ys p hp1 hp2 hp => ?_⟩
      rw [sort_strs hp1 hp2]
      exact hq _ _ (.new hp) (new_own_lst hp (at_strs _))
    · cases e2
  · cases hg

/-! ### dict of pairs, of a dict; list of a dict -/
def pairsD : List D → Option (List (Key × D))
  | [] => some []
  | .tup [k, v] :: r => (atomD k).bind fun κ => (pairsD r).map fun z => (κ, v) :: z
  | _ => none
def mergeD (kvs : List (DK × D)) (more : List (Key × D)) : List (DK × D) := more.foldl (fun acc p => putD acc (ofKey p.1) p.2) kvs
def dictD : List D → Option RV
  | [.lst ds] => (pairsD ds).map fun ps => .own (.dic false (mergeD [] ps))
  | [.tup ds] => if pairsT ds = true then (pairsD ds).map fun ps => .own (.dic false (mergeD [] ps)) else none
  | [.dic false kvs] => some (.own (.dic false kvs))
  | _ => none
def listE : List D → Option RV
  | [.dic false kvs] => some (.own (.lst (kvs.map fun p => p.1.toD)))
  | ds => listD ds
theorem nodup_putK {κ : Type} [DecidableEq κ] {es : List (κ × V)} {k : κ} {v : V} (h : (es.map (·.1)).Nodup) : ((putK es k v).map (·.1)).Nodup := by
  unfold putK
  split
  · have e : (es.map fun p => if p.1 = k then (p.1, v) else p).map (·.1) = es.map (·.1) := by
      rw [List.map_map]
      refine List.map_congr_left fun p _ => ?_
      show (if p.1 = k then (p.1, v) else p).1 = p.1
      split <;> rfl
    rw [e]
    exact h
  · rename_i hn
    rw [List.map_append]
    refine List.nodup_append.mpr ⟨h, by simp, fun x hx y hy => ?_⟩
    have hy : y = k := by simpa using hy
    subst hy
    intro e
    subst e
    obtain ⟨p, hp, e⟩ := List.mem_map.mp hx
    exact hn (List.any_eq_true.mpr ⟨p, hp, decide_eq_true e⟩)
theorem merge_at {K : PySem.W.Frag} : ∀ {ps : List (Key × D)} {qs : List (Key × V)} {kvs : List (DK × D)} {es : List (Key × V)}, ps.length = qs.length → (∀ (i : Nat) (p : Key × D), ps[i]? = some p → ∃ v, qs[i]? = some (p.1, v) ∧ At K H p.2 v) → (es.map (·.1)).Nodup → AtK K H kvs es → AtK K H (mergeD kvs ps) (mergeK es qs)
  | [], [], kvs, es, _, _, _, h => h
  | p :: ps, q :: qs, kvs, es, hl, hp, nd, h => by
    obtain ⟨v, e, a⟩ := hp 0 p rfl
    cases e
    exact merge_at (kvs := putD kvs (ofKey p.1) p.2) (es := putK es p.1 v) (by simpa using hl) (fun i x hx => hp (i + 1) x hx) (nodup_putK nd) (AtK.put p.1 nd h a)
theorem pairs_at {K : PySem.W.Frag} : ∀ {ds : List D} {ps : List (Key × D)} {xs : List V}, pairsD ds = some ps → AtAll K H ds xs → ∃ (as : List Addr) (qs : List (Key × V)), xs = as.map V.ref ∧ Paired (fun p kv => SqT K H p [kV kv.1, kv.2]) as qs ∧ ps.length = qs.length ∧ ∀ (i : Nat) (p : Key × D), ps[i]? = some p → ∃ v, qs[i]? = some (p.1, v) ∧ At K H p.2 v
  | [], ps, xs, e, h => by
    cases e
    rw [h.inv0]
    exact ⟨[], [], rfl, .nil, rfl, fun i p h => by simp at h⟩
  | .tup [k, v] :: r, ps, _, e, h => by
    have e : ((atomD k).bind fun κ => (pairsD r).map fun z => (κ, v) :: z) = some ps := e
    obtain ⟨κ, e1, e2⟩ := Option.bind_eq_some_iff.mp e
    obtain ⟨zs, e3, rfl⟩ := Option.map_eq_some_iff.mp e2
    obtain ⟨x, t, rfl, h1, h2⟩ := h.inv
    obtain ⟨as, qs, rfl, a1, a2, a3⟩ := pairs_at e3 h2
    unfold At at h1
    obtain ⟨a, ys, rfl, b1, b2⟩ := h1
    obtain ⟨y1, t1, rfl, c1, c2⟩ := b2.inv
    obtain ⟨y2, t2, rfl, c3, c4⟩ := c2.inv
    rw [c4.inv0] at b1
    rw [atom_at (At.ct c1) e1] at b1
    refine ⟨a :: as, (κ, y2) :: qs, rfl, .cons b1.1 a1, by simp [a2], fun i p hp => ?_⟩
    cases i with
    | zero => cases hp; exact ⟨y2, rfl, c3⟩
    | succ i => exact a3 i p (by simpa using hp)
theorem pairs_of2 {X : Cx} {pins : List (Addr × Obj)} {σ : Sl} {H : Hp} {s : Shared} (I : Inv X pins σ H s) : ∀ {ps : List Addr} {kvs : List (Key × V)}, Paired (fun p kv => SqT X.K H p [kV kv.1, kv.2]) ps kvs →
    ∃ (prs : List (Key × Value)) (us : List (Value × Value)), KV kvs prs ∧ prs.length = ps.length ∧ us.length = ps.length ∧ ∀ (j : Nat) (u v : Value), us[j]? = some (u, v) → ∃ (b : Addr) (k : Key), ps[j]? = some b ∧ PyProof.Rows.IsTup s.heap b #[u, v] ∧ prs[j]? = some (k, v) ∧ (mixKind X.prog X.w).is k u = true
  | _, _, .nil => ⟨[], [], .nil, rfl, rfl, fun j u v e => by simp at e⟩
  | _, _, .cons (a := p) (b := kv) h t => by
    obtain ⟨prs, us, r, hl, hu, hp⟩ := pairs_of2 I t
    obtain ⟨its, rv, ht, _⟩ := I.tuple h
    obtain ⟨u, y, ei, ru, ry⟩ := vals2 rv
    subst ei
    refine ⟨(kv.1, y) :: prs, (u, y) :: us, .cons ⟨rfl, ry⟩ r, by rw [List.length_cons, List.length_cons, hl], by rw [List.length_cons, List.length_cons, hu], fun j u' v' e => ?_⟩
    cases j with
    | zero =>
      have e' : (u, y) = (u', v') := Option.some.inj e
      cases e'
      exact ⟨p, kv.1, rfl, ht, rfl, kV_is (P := X.prog) (w := X.w) ru⟩
    | succ j =>
      obtain ⟨b, k, e1, e2, e3, e4⟩ := hp j u' v' (by simpa using e)
      exact ⟨b, k, by simpa using e1, e2, by simpa using e3, e4⟩
/-- dict(t) of a tuple of pairs that is known and has no dict of its own -/
theorem call_dictT (hcalm : X.calm = true) : CallR X (.type "dict") (fun xs H Q => ∃ (a : Addr) (ob : Obj) (ps : List Addr) (kvs : List (Key × V)), xs = [.ref a] ∧ ob.dict = none ∧ SqT X.K H a (ps.map V.ref) ∧ (H a = some (.frz ob (.tup (ps.map V.ref))) ∨ X.K.lookup a = some ob) ∧ Paired (fun p kv => SqT X.K H p [kV kv.1, kv.2]) ps kvs ∧
    ∀ p, H p = none → Q (.ref p) (upd H p (.dK (mergeK [] kvs)))) := by
  intro pins s σ H xs us Q I r q
  obtain ⟨a, ob, ps, kvs, ex, hob, hsq, hq, hp, q⟩ := q
  subst ex
  obtain ⟨u, eu, rx⟩ := vals1 r
  subst eu
  cases (show u = Value.ref a from rx)
  have ho : s.heap.get? a = some ob := by
    rcases hq with hq | hq
    · exact (I.hok a _ hq).1
    · exact I.kIn a ob hq
  obtain ⟨its, rv, ⟨o', ho', hc, n, hdat⟩, hz⟩ := I.tuple hsq
  rw [ho] at ho'
  cases ho'
  have ei := refs_at rv
  subst ei
  rw [List.length_map] at hz
  obtain ⟨prs, kv2, rel, hl, hu, hpr⟩ := pairs_of2 I hp
  have P := PySem.PairArg.tuple (prog := X.prog) (w := X.w) a (ps.map Value.ref).toArray (fun j => ps.getD j 0) kv2
  refine PySem.call_dict_pairs (knd := mixKind X.prog X.w) (kvs := prs) P (I.ok.hd hcalm) ⟨⟨ob, n, ho, hc, hob, hdat⟩, by simp [hu], fun j k v e => ?_⟩ ⟨by rw [hl, hu], fun i key v hi => ?_⟩ (by rw [hu]; exact hz) fun h' tk hd' hk => ?_
  · obtain ⟨b, k', e1, e2, e3, e4⟩ := hpr j k v e
    have eb : ps.getD j 0 = b := by rw [List.getD_eq_getElem?_getD, e1]; rfl
    show (ps.map Value.ref).toArray[j]? = some (Value.ref (ps.getD j 0)) ∧ PySem.PairAt s.heap (ps.getD j 0) k v
    rw [eb]
    exact ⟨by simp [e1], .inl e2⟩
  · obtain ⟨b, k', e1, e2, e3, e4⟩ := hpr i key v hi
    exact ⟨k', e3, e4⟩
  · have hm : (s.heap.objs.size == sysModules) = false := beq_eq_false_iff_ne.mpr (Nat.ne_of_gt I.big)
    have hlen : (mergeK [] kvs).length ≤ sizeLine := by
      refine Nat.le_trans (length_mergeK kvs []) ?_
      rw [List.length_nil, Nat.zero_add, rel.length, hl]
      exact hz
    exact ⟨.ref s.heap.objs.size, upd H s.heap.objs.size (.dK (mergeK [] kvs)), I.laid (t' := tk) (fun b o e => hk b o (by simp) e) (Nat.le_refl _) (show ObjOk X.prog X.w _ _ _ (.dK (mergeK [] kvs)) from ⟨hlen, hm, merged [] prs, KV.merge rel .nil, hd'⟩), rfl, q _ (I.hok.fresh (Nat.le_refl _))⟩
theorem call_dictV (hc : X.calm = true) : CallR X (.type "dict") (rCn X.K dictD) := by
  intro pins s σ H vs us Q I rv h
  obtain ⟨ds, r, hcs, hg, hb, hq⟩ := h
  unfold dictD at hg
  split at hg
  · obtain ⟨ps, e1, e2⟩ := Option.map_eq_some_iff.mp hg
    subst e2
    obtain ⟨v, rfl, cv⟩ := ctAll1 hcs
    obtain ⟨a, xs, rfl, h3, h4⟩ := cv.lst
    obtain ⟨as, qs, rfl, a1, a2, a3⟩ := pairs_at e1 h4
    exact call_dictP hc pins s σ H _ us Q I rv ⟨a, as, qs, rfl, .inl h3, a1, fun p hp => hq _ _ (.new hp) ⟨p, rfl, hp, _, upd_same, AtK.ext (Evo.new (A := noA) hp).ext _ _ (merge_at (kvs := []) (es := []) a2 a3 .nil .nil)⟩⟩
  · split at hg
    · rename_i hpt
      obtain ⟨ps, e1, e2⟩ := Option.map_eq_some_iff.mp hg
      subst e2
      obtain ⟨v, rfl, cv⟩ := ctAll1 hcs
      have ca := cv.tupAt
      unfold At at ca
      obtain ⟨a, xs, rfl, h3, h4⟩ := ca
      obtain ⟨ob, o1, o2⟩ := h3.2.2 hpt
      obtain ⟨as, qs, rfl, a1, a2, a3⟩ := pairs_at e1 h4
      exact call_dictT hc pins s σ H _ us Q I rv ⟨a, ob, as, qs, rfl, o1, h3.1, o2, a1, fun p hp => hq _ _ (.new hp) ⟨p, rfl, hp, _, upd_same, AtK.ext (Evo.new (A := noA) hp).ext _ _ (merge_at (kvs := []) (es := []) a2 a3 .nil .nil)⟩⟩
    · cases hg
  · rename_i kvs
    cases hg
    obtain ⟨v, rfl, cv⟩ := ctAll1 hcs
    obtain ⟨a, es, rfl, h3, h4⟩ := cv.dicK
    exact call_dictD pins s σ H _ us Q I rv ⟨a, es, rfl, h3, fun p hp => hq _ _ (.new hp) ⟨p, rfl, hp, _, upd_same, AtK.ext (Evo.new (A := noA) hp).ext _ _ h4⟩⟩
  · cases hg
theorem call_listW (hc : X.calm = true) : CallR X (.type "list") (rCn X.K listE) := by
  intro pins s σ H vs us Q I rv h
  have h' := h
  obtain ⟨ds, r, hcs, hg, hb, hq⟩ := h'
  unfold listE at hg
  split at hg
  · cases hg
    obtain ⟨v, rfl, cv⟩ := ctAll1 hcs
    obtain ⟨a, es, rfl, h3, h4⟩ := cv.dicK
    refine call_listD hc pins s σ H _ us Q I rv ⟨a, es, rfl, h3, fun p hp => hq _ _ (.new hp) (new_own_lst hp ?_)⟩
    have : ∀ {kvs : List (DK × D)} {es : List (Key × V)}, AtK X.K H kvs es → AtAll X.K H (kvs.map fun p => p.1.toD) (es.map fun kv => kV kv.1) := by
      intro kvs
      induction kvs with
      | nil => intro es h; rw [h.inv0]; exact .nil
      | cons p r ih =>
        intro es h
        obtain ⟨k', x, r', rfl, hk, h1, h2⟩ := h.inv
        rw [List.map_cons, List.map_cons, hk]
        exact .cons (at_key k') (ih h2)
    exact this h4
  · exact call_listV pins s σ H _ us Q I rv ⟨ds, r, hcs, hg, hb, hq⟩
end
end Dt

end
section
set_option maxRecDepth 100000
set_option autoImplicit false
/-! A def that calls itself; dicts written out. -/
namespace Dt
open PySem PySem.Spec PyProof.Rows L2

/-- a def of which nothing is known: it may not be called -/
theorem fnD_fail {P : Program} {w : World} {K : PySem.W.Frag} {mg : Str → Option Value} {base : Heap} {CX : CXT} {ec : EC} {x qual : Str} {st : Stmt} {fa : Addr} {fd : FuncData} {N ps : List Str} {k : Nat} (F : Fun K x qual st fa fd) (hm : mg x = some (.ref fa)) (S : FnScope N ps (defScope st))
    (hbi : ∀ (kV doc pm : Value) (an : Option Addr) (cdv ct : Value) (us : List Value), us.length = ps.length → bindArgs (PySem.W.fnOf x qual (defArgs st) (defBody st) (defScope st) .none kV doc pm an cdv ct) ⟨us, []⟩ = pure (ps.zip us)) :
    FnD P w K mg base CX ec (k + 1) x ps.length (fail : M RV) := by
  refine ⟨fa, fd, ps, ?_, hm, F.kp, F.binds hbi⟩
  obtain ⟨oc, od, kV, doc, pm, an, cdv, ct, osl, rfl, lk, hcd⟩ := F.ex
  refine fn_of lk hcd S (fun vs H Q E h => h.1) fun A outer s H vs Q E hr hsp => ?_
  obtain ⟨hl, hsp⟩ := hsp
  refine ⟨fun D0 σ H => Bounded K H → False, ⟨fun pins s σ H D0 I hq => (hq (bounded_of I)).elim⟩, fun hbd => ?_⟩
  obtain ⟨rs, R, hp⟩ := hsp hbd
  exact hp

section
variable {X : Cx} {ec : EC} {E : L2.WX} {k v : Expr} {ks : List (Option Expr)} {vs : List Expr} {pos : Pos}
/-! ### dicts written out -/
def pairsM : List (M D × M D) → M (List (D × D))
  | [] => Dt.ret []
  | (mk, mv) :: r => bnd mk fun k => bnd mv fun v => bnd (pairsM r) fun ps => Dt.ret ((k, v) :: ps)
abbrev RPairs (K : PySem.W.Frag) : Sl → Hp → Hp → List (V × V) → List (D × D) → Prop := fun _ _ H' g r => AtAll K H' (r.map (·.1)) (g.map (·.1)) ∧ AtAll K H' (r.map (·.2)) (g.map (·.2))
structure DPs (X : Cx) (ec : EC) (E : L2.WX) (pos : Pos) (keys : List (Option Expr)) (values : List Expr) (ms : List (M D × M D)) : Prop where
  run : ∃ trs, PPs X pos keys values trs ∧ Comes X.K ec E (RPairs X.K) (pairsM ms) (fun σ H Q => tPairs trs σ H Q)
theorem dps_nil : DPs X ec E pos [] [] [] := ⟨[], pps_nil, fun σ H s Q hR hm => Post.retq (r := ([] : List (D × D))) hR hm [] ⟨.nil, .nil⟩⟩
theorem dps_cons {mk mv : M D} {ms : List (M D × M D)} (hk : DV X ec E k mk) (hv : DV X ec E v mv) (hr : DPs X ec E pos ks vs ms) : DPs X ec E pos (some k :: ks) (v :: vs) ((mk, mv) :: ms) := by
  obtain ⟨t, h1, h2⟩ := hk.run
  obtain ⟨u, h3, h4⟩ := hv.run
  obtain ⟨ts, h5, h6⟩ := hr.run
  refine ⟨_, pps_cons h1 h3 h5, fun σ H s Q hR hm => ?_⟩
  refine h2 σ H s _ hR ((Post.bnd (m := mk) hm).imp fun d s1 H1 _ e1 R1 S1 hk1 x hx => ?_)
  refine h4 σ H1 s1 _ R1 (hk1.bnd.imp fun e s2 H2 _ e2 R2 S2 hk2 y hy => ?_)
  refine h6 σ H2 s2 _ R2 (hk2.bnd.imp fun ps s3 H3 _ e3 R3 S3 hk3 g hg => ?_)
  exact Post.retq R3 hk3 ((x, y) :: g) ⟨AtAll.cons (At.ext (e2.ext.trans e3.ext) _ _ hx) hg.1, AtAll.cons (At.ext e3.ext _ _ hy) hg.2⟩
def keysOf : List (D × D) → Option (List (Key × D))
  | [] => some []
  | (k, v) :: r => (atomD k).bind fun κ => (keysOf r).map fun z => (κ, v) :: z
def dispD (l : List (D × D)) : Option RV := if l.length ≤ 15 then (keysOf l).map fun z => .own (.dic false (mergeD [] z)) else none
def dispM (ms : List (M D × M D)) : M RV := bnd (pairsM ms) fun l => lift (dispD l)
theorem Bounded.newDK {K : PySem.W.Frag} {H : Hp} {p : Addr} (b : Bounded K H) (hp : H p = none) : Bounded K (upd H p (.dK [])) := by
  have rd : ∀ {a : Addr} {u : HO}, Rd (upd H p (.dK [])) a u → (a = p ∧ u = .dK []) ∨ Rd H a u := fun {a u} h => by
    by_cases e : a = p
    · subst e
      rcases h with h | ⟨o, h⟩
      · rw [upd_same] at h; cases h; exact .inl ⟨rfl, rfl⟩
      · rw [upd_same] at h; cases h
    · rcases h with h | ⟨o, h⟩
      · rw [upd_ne e] at h; exact .inr (.inl h)
      · rw [upd_ne e] at h; exact .inr (.inr ⟨o, h⟩)
  refine ⟨fun a ys h => ?_, fun a es h => ?_, fun a es h => ?_⟩
  · rcases h with (h | h) | (h | h)
    · rcases rd h with ⟨_, e⟩ | h
      · cases e
      · exact b.seq a ys (.inl (.inl h))
    · exact b.seq a ys (.inl (.inr h))
    · rcases rd h with ⟨_, e⟩ | h
      · cases e
      · exact b.seq a ys (.inr (.inl h))
    · exact b.seq a ys (.inr (.inr h))
  · rcases rd h with ⟨_, e⟩ | h
    · cases e; exact ⟨Nat.zero_le _, .nil⟩
    · exact b.dK a es h
  · rcases rd h with ⟨_, e⟩ | h
    · cases e
    · exact b.dT a es h
theorem pairs_keys {K : PySem.W.Frag} {H : Hp} : ∀ {r : List (D × D)} {g : List (V × V)} {z : List (Key × D)}, keysOf r = some z → RPairs K [] H H g r → ∃ kvs : List (Key × V), g = kvs.map (fun kv => (kV kv.1, kv.2)) ∧ z.length = kvs.length ∧ r.length = kvs.length ∧ ∀ (i : Nat) (p : Key × D), z[i]? = some p → ∃ v, kvs[i]? = some (p.1, v) ∧ At K H p.2 v
  | [], g, z, e, h => by
    cases e
    have := h.1.inv0
    cases g with
    | nil => exact ⟨[], rfl, rfl, rfl, fun i p h => by simp at h⟩
    | cons _ _ => simp at this
  | (k, v) :: r, g, z, e, h => by
    obtain ⟨κ, e1, e2⟩ := Option.bind_eq_some_iff.mp (show ((atomD k).bind fun κ => (keysOf r).map fun z => (κ, v) :: z) = some z from e)
    obtain ⟨zs, e3, rfl⟩ := Option.map_eq_some_iff.mp e2
    obtain ⟨x, t, hx, h1, h2⟩ := (show AtAll K H (k :: r.map (·.1)) (g.map (·.1)) from h.1).inv
    obtain ⟨y, t', hy, h3, h4⟩ := (show AtAll K H (v :: r.map (·.2)) (g.map (·.2)) from h.2).inv
    cases g with
    | nil => simp at hx
    | cons q g =>
      obtain ⟨q1, q2⟩ := q
      simp only [List.map_cons, List.cons.injEq] at hx hy
      obtain ⟨rfl, rfl⟩ := hx
      obtain ⟨rfl, rfl⟩ := hy
      obtain ⟨kvs, rfl, l1, l2, l3⟩ := pairs_keys e3 ⟨h2, h4⟩
      have ek := atom_at (At.ct h1) e1
      subst ek
      refine ⟨(κ, q2) :: kvs, rfl, by simp [l1], by simp [l2], fun i p hp => ?_⟩
      cases i with
      | zero => cases hp; exact ⟨q2, rfl, h3⟩
      | succ i => exact l3 i p (by simpa using hp)
theorem Rel0.unowned {K : PySem.W.Frag} {σ : Sl} {H : Hp} {s : DSt} {p : Addr} (R : Rel0 K σ H s) (hp : H p = none) : ¬ OwnsA σ s p := fun z => by
  obtain ⟨o, h, _⟩ := R.there z
  rw [hp] at h
  cases h
theorem dr_disp {ms : List (M D × M D)} (h : DPs X ec E pos ks vs ms) (hall : ks.all (·.isSome) = true) (hl : ks.length = vs.length) (h0 : ks ≠ []) (h15 : ks.length ≤ 15) : DR X ec E (.Dict ks vs pos) (dispM ms) := by
  obtain ⟨ts, h1, h2⟩ := h.run
  refine DR.mk0 (pe_disp h1 hall hl h0 h15) fun σ H s Q hR hm => ?_
  intro p hp
  have e0 : Evo (OwnsA σ s) H (upd H p (.dK [])) := .new hp
  have un : ¬ OwnsA σ s p := hR.toRel0.unowned hp
  have R0 : Rel X.K σ (upd H p (.dK [])) s := ⟨hR.toRel0.evo (A := noA) (.new hp) fun _ _ z => z, hR.bnd.newDK hp⟩
  refine h2 σ (upd H p (.dK [])) s _ R0 ?_
  unfold dispM bnd at hm
  revert hm
  cases em : pairsM ms s with
  | none => exact fun hm => hm.elim
  | some q =>
    obtain ⟨q, s1⟩ := q
    cases q with
    | err c d => exact fun hm cl dx H' a b c' q => hm cl dx H' (e0.trans a fun _ z => .inl z) b c' q
    | ok l =>
      intro hm H1 ev R1 S1 g hg
      have hm : Post0 X.K ec E σ H s _ (lift (dispD l) s1) := hm
      have hH1 : H1 p = some (.dK []) := ev.keep p _ upd_same un
      cases ed : dispD l with
      | none => rw [ed] at hm; exact hm.elim
      | some r =>
        rw [ed] at hm
        unfold dispD at ed
        split at ed
        · rename_i hlen
          obtain ⟨z, e1, e2⟩ := Option.map_eq_some_iff.mp ed
          subst e2
          obtain ⟨kvs, rfl, l1, l2, l3⟩ := pairs_keys e1 (show RPairs X.K [] H1 H1 g l from hg)
          refine ⟨hH1, kvs, rfl, by omega, ?_⟩
          have ew : Evo (fun c => c = p) H1 (upd H1 p (.dK (mergeK [] kvs))) := .write hH1 trivial rfl
          refine hm (upd H1 p (.dK (mergeK [] kvs))) ((e0.trans ev fun _ z => .inl z).trans ew fun c z => .inr (by rw [z]; exact hp)) (R1.toRel0.evo ew fun a o z => un (S1.owns (by rw [← z]; exact o))) S1 (.ref p) ⟨p, rfl, hp, _, upd_same, ?_⟩
          exact AtK.ext ew.ext _ _ (merge_at (kvs := []) (es := []) l1 l3 .nil .nil)
        · cases ed
/-! ### {(a, b): v} -/
def tDispT (tk tv : TE) : TE := fun σ H Q => ∀ p, H p = none → tk σ (upd H p (.dT [])) fun x H1 => tv σ H1 fun y H2 => H2 p = some (.dT []) ∧ ∃ (b : Addr) (κ : List Key), x = .ref b ∧ H2 b = some (.tup (κ.map kV)) ∧ Q (.ref p) (upd H2 p (.dT [(κ, y)]))
theorem pe_dispT {tk tv : TE} (hu : X.A.units + 1 < cLine) (hk : PE X k tk) (hv : PE X v tv) : PE X (.Dict [some k] [v] pos) (tDispT tk tv) := by
  refine ⟨fun pins s σ H Q I q => ?_⟩
  have hn := I.hok.fresh (Nat.le_refl s.heap.objs.size)
  have I1 := I.laid (a := s.heap.objs.size) (o := .dT []) (h' := s.heap.push { cls := .type "dict", data := .dict #[] }) (t' := s.toks) (fun _ _ q => Heap.get?_push_of_some _ q) (Nat.le_refl _) (dt_empty s.heap I.big)
  have hz := zip_pairTrees [some k] [v] X.env pos rfl rfl
  rw [arm_eval_Dict, hz, dictDisplay_pairs (pairTrees [some k] [v] X.env pos) (by simp [pairTrees]) (by simp [pairTrees])]
  refine wpAny_bind (wpAny_standAt (wpAny_bind (wpAny_subDictH (knd := tupleKind (mixKind X.prog X.w)) (Q := fun d s' => wpAny (model X.prog X.w) X.A (pure (Value.ref d)) _ _ s') (show X.A.units < cLine by omega) (by simp [pairTrees]) ?_)))
  refine pairTrees_cons_walk (thn (hk.run pins _ σ _ _ I1 (q _ hn)) fun u s1 ⟨x, H1, I2, rx, q1⟩ => thn (hv.run pins s1 σ H1 _ I2 q1) fun w2 s2 ⟨y, H2, I3, ry, hp, b, κ, ex, eb, q2⟩ => pairTrees_nil_walk ?_)
  subst ex
  cases (show u = Value.ref b from rx)
  obtain ⟨z, hd, xs, rel, dd⟩ := dt_of I3.hok hp
  have ex : xs = [] := by cases rel; rfl
  subst ex
  refine ⟨[(κ, b, w2)], ⟨rfl, rfl, key_of I3.hok eb, trivial⟩, dd, fun h' tk dd' hs => wpAny_pure ?_⟩
  obtain ⟨q, es, ep, hq, h2, h3, h4, _, h5⟩ := dd'
  refine ⟨.ref s.heap.objs.size, _, ?_, rfl, q2⟩
  refine d_write I3 (by rw [hp]; exact True.intro) hs ⟨q, hq⟩ ⟨by rw [sizeLine_eq]; simp, hd, _, (rel.put κ eb ry).keeps fun c ys ec => ?_, q, es, ep, hq, h2, h3, h4, h5⟩
  rw [upd_ne (ne_of ec hp (fun z => nomatch z))]
  exact ec
def dispT1 (mk mv : M D) : M RV := bnd mk fun k => bnd mv fun v => lift ((putKey true k).map fun κ => .own (.dic true [(κ, v)]))
theorem Bounded.newDT {K : PySem.W.Frag} {H : Hp} {p : Addr} (b : Bounded K H) (hp : H p = none) : Bounded K (upd H p (.dT [])) := by
  have rd : ∀ {a : Addr} {u : HO}, Rd (upd H p (.dT [])) a u → (a = p ∧ u = .dT []) ∨ Rd H a u := fun {a u} h => by
    by_cases e : a = p
    · subst e
      rcases h with h | ⟨o, h⟩
      · rw [upd_same] at h; cases h; exact .inl ⟨rfl, rfl⟩
      · rw [upd_same] at h; cases h
    · rcases h with h | ⟨o, h⟩
      · rw [upd_ne e] at h; exact .inr (.inl h)
      · rw [upd_ne e] at h; exact .inr (.inr ⟨o, h⟩)
  refine ⟨fun a ys h => ?_, fun a es h => ?_, fun a es h => ?_⟩
  · rcases h with (h | h) | (h | h)
    · rcases rd h with ⟨_, e⟩ | h
      · cases e
      · exact b.seq a ys (.inl (.inl h))
    · exact b.seq a ys (.inl (.inr h))
    · rcases rd h with ⟨_, e⟩ | h
      · cases e
      · exact b.seq a ys (.inr (.inl h))
    · exact b.seq a ys (.inr (.inr h))
  · rcases rd h with ⟨_, e⟩ | h
    · cases e
    · exact b.dK a es h
  · rcases rd h with ⟨_, e⟩ | h
    · cases e; exact ⟨Nat.zero_le _, .nil⟩
    · exact b.dT a es h
theorem dr_dispT1 {mk mv : M D} (hu : X.A.units + 1 < cLine) (hk : DV X ec E k mk) (hv : DV X ec E v mv) : DR X ec E (.Dict [some k] [v] pos) (dispT1 mk mv) := by
  obtain ⟨t, h1, h2⟩ := hk.run
  obtain ⟨u, h3, h4⟩ := hv.run
  refine DR.mk0 (pe_dispT hu h1 h3) fun σ H s Q hR hm => ?_
  intro p hp
  have e0 : Evo (OwnsA σ s) H (upd H p (.dT [])) := .new hp
  have un : ¬ OwnsA σ s p := hR.toRel0.unowned hp
  have R0 : Rel X.K σ (upd H p (.dT [])) s := ⟨hR.toRel0.evo (A := noA) (.new hp) fun _ _ z => z, hR.bnd.newDT hp⟩
  refine h2 σ (upd H p (.dT [])) s _ R0 ?_
  unfold dispT1 bnd at hm
  revert hm
  cases em : mk s with
  | none => exact fun hm => hm.elim
  | some q =>
    obtain ⟨q, s1⟩ := q
    cases q with
    | err c d => exact fun hm cl dx H' a b c' q => hm cl dx H' (e0.trans a fun _ z => .inl z) b c' q
    | ok dk =>
      intro hm H1 ev R1 S1 x hx
      dsimp only at hm
      refine h4 σ H1 s1 _ R1 ?_
      revert hm
      cases em2 : mv s1 with
      | none => exact fun hm => hm.elim
      | some q =>
        obtain ⟨q, s2⟩ := q
        cases q with
        | err c d => exact fun hm cl dx H' a b c' q => hm cl dx H' ((e0.trans ev fun _ z => .inl z).trans a fun _ z => .inl (S1.owns z)) b (S1.trans c') q
        | ok dv =>
          intro hm H2 ev2 R2 S2 y hy
          have hm : Post0 X.K ec E σ H s _ (lift ((putKey true dk).map fun κ => RV.own (.dic true [(κ, dv)])) s2) := hm
          have hH2 : H2 p = some (.dT []) := ev2.keep p _ (ev.keep p _ upd_same un) fun z => un (S1.owns z)
          cases ek : putKey true dk with
          | none => rw [ek] at hm; exact hm.elim
          | some κ =>
            rw [ek] at hm
            cases dk with
            | tup ds =>
              have ek : (if keyT ds = true then keyD true (.tup ds) else none) = some κ := ek
              split at ek
              · rename_i hkt
                obtain ⟨κs, h5, h6⟩ := Option.map_eq_some_iff.mp (show (atomsD ds).map ofKeys = some κ from ek)
                subst h6
                have hx : At X.K H2 (.tup ds) x := At.ext ev2.ext _ _ hx
                unfold At at hx
                obtain ⟨b, xs, rfl, h7, h8⟩ := hx
                have ex := atoms_at h8 h5
                subst ex
                refine ⟨hH2, b, κs, rfl, h7.2.1 hkt, ?_⟩
                have ew : Evo (fun c => c = p) H2 (upd H2 p (.dT [(κs, y)])) := .write hH2 trivial rfl
                refine hm (upd H2 p (.dT [(κs, y)])) (((e0.trans ev fun _ z => .inl z).trans ev2 fun _ z => .inl (S1.owns z)).trans ew fun c z => .inr (by rw [z]; exact hp)) (R2.toRel0.evo ew fun a o z => un (S1.owns (S2.owns (by rw [← z]; exact o)))) (S1.trans S2) (.ref p) ⟨p, rfl, hp, _, upd_same, ?_⟩
                exact AtT.cons (At.ext ew.ext _ _ hy) .nil (keyT_ne hkt h5)
              · cases ek
            | _ => cases ek
/-! ### l.pop(i) -/
def popAtG : D → List D → Option (D × D)
  | .lst ds, [.int i] => if -1000000 ≤ i ∧ i ≤ 1000000 then (ixN ds.length i).bind fun k => ds[k]?.map fun d => (.lst (ds.eraseIdx k), d) else none
  | _, _ => none
theorem mt_popAtD : MtR X "list.pop" (rMut X.K popAtG) := by
  intro pins s σ H x vs v us Q I rx rv h
  obtain ⟨a, d, ds, d', r, rfl, ow, hv, hg, hb, q⟩ := h
  unfold popAtG at hg
  split at hg
  · rename_i es i
    split at hg
    · rename_i hi
      obtain ⟨k, e0, e1⟩ := Option.bind_eq_some_iff.mp hg
      obtain ⟨z, e1, e2⟩ := Option.map_eq_some_iff.mp e1
      cases e2
      obtain ⟨xs, h1, h2⟩ := own_lst ow
      obtain ⟨w, t, rfl, hw, ht⟩ := hv.inv
      rw [ht.inv0] at rv
      cases (show w = V.int i from hw)
      obtain ⟨y, h3, h4⟩ := h2.get e1
      have ev := evo_lst (ys := xs.eraseIdx k) h1
      refine mt_popAt pins s σ H _ _ v us Q I rx rv ⟨a, xs, i, k, y, rfl, rfl, h1, by omega, by omega, ?_, h3, q _ _ ev ⟨_, upd_same, (AtAll.ext ev.ext _ _ h2).erase k⟩ (At.ext ev.ext _ _ h4)⟩
      rw [h2.len]
      exact (ixN_seq e0).1
    · cases hg
  · cases hg
/-! ### a product: ints, a text times an int -/
def mulE : D → D → Option RV
  | .int i, .int j => if mulOk i j = true then some (.val (.int (i * j))) else none
  | .str x, .int n => if x.length ≤ 1000 ∧ -1000 ≤ n ∧ n ≤ 1000 then some (.val (.str (Txt.mul x n))) else none
  | _, _ => none
theorem op_mulS : OpR X (binaryOp .Mult) (fun x y H Q => ∃ z n, x = .str z ∧ y = .int n ∧ z.length ≤ 1000 ∧ -1000 ≤ n ∧ n ≤ 1000 ∧ Q (.str (Txt.mul z n)) H) := by
  intro pins s σ H x y v u Q I rx ry h
  obtain ⟨z, n, rfl, rfl, h1, h2, h3, q⟩ := h
  obtain ⟨t, rfl⟩ := rx
  obtain ⟨t', rfl⟩ := ry
  refine SB.mul ⟨?_, fun g _ => ?_, fun g _ => ?_⟩ fun t' k => ⟨.str _, H, I.tok _, ⟨_, rfl⟩, q⟩
  · simp; omega
  · have : (1000 : Int) ≤ (2 ^ 63 - 1) / n := by
      rw [Int.le_ediv_iff_mul_le (by omega)]
      omega
    omega
  · unfold Builtin.Str.tooLong
    have : z.length * n.toNat ≤ 1000 * 1000 := Nat.mul_le_mul h1 (by omega)
    simp only [decide_eq_false_iff_not]
    rw [sizeLine_eq]
    omega
theorem op_mulE : OpR X (binaryOp .Mult) (rC2 X.K mulE) := by
  refine OpR.imp (op_mulD.or op_mulS) ?_
  rintro x y H Q ⟨d, e, r, hd, he, hg, hb, q⟩
  unfold mulE at hg
  split at hg
  · exact .inl ⟨_, _, _, hd, he, hg, hb, q⟩
  · split at hg
    · rename_i c
      cases hg
      rw [hd.str, he.int]
      exact .inr ⟨_, _, rfl, rfl, c.1, c.2.1, c.2.2, q _ _ .self rfl⟩
    · cases hg
  · cases hg
end
end Dt

end
section
set_option maxRecDepth 100000
set_option autoImplicit false
/-! dict(zip(a, b)), a and b lists or tuples. -/
namespace Dt
open PySem PySem.Spec PyProof.Rows L2

section
variable {prog : Program} {w : World} {A : Around} {E : Value → Shared → Prop} {s : Shared} {z TI TO i1 i2 T : Addr} {fp1 fp2 : List Addr} {n1 n2 i : Nat} {P1 P2 : Nat → Value → Prop} {St1 St2 : Nat → Heap → Prop} {f : Bool} {oT : Obj}
theorem zipH_next_item {Q : Value → Shared → Prop} (S : ZipSep2 z TI TO i1 i2 fp1 fp2) (D1 : Draws prog w A i1 fp1 n1 P1 St1) (D2 : Draws prog w A i2 fp2 n2 P2 St2)
    (hz : IsZipHeld s.heap z TI TO T f) (hT : s.heap.get? T = some oT) (hTI : IsTupOf2 s.heap TI (.ref i1) (.ref i2)) (st1 : St1 i s.heap) (st2 : St2 i s.heap) (hlt1 : i < n1) (hlt2 : i < n2)
    (hQ : ∀ x1 x2 h' tk, P1 i x1 → P2 i x2 → IsZipHeld h' z TI TO T true → St1 (i + 1) h' → St2 (i + 1) h' → IsTupOf2 h' s.heap.objs.size x1 x2 → h'.objs.size = s.heap.objs.size + 1 →
      (∀ c o, c ≠ z → c ≠ i1 → c ≠ i2 → s.heap.get? c = some o → h'.get? c = some o) → Q (.ref s.heap.objs.size) { s with heap := h', toks := tk }) :
    wpAny (model prog w) A (Builtin.«zip.__next__» ⟨[.ref z], []⟩) (fun fin s' => ∃ v, fin = .done (.ret v) ∧ Q v s') E s := by
  obtain ⟨hp, g, d, tk0, os⟩ := s
  show wpAny _ _ (field (.ref z) 2 >>= _) _ _ _
  refine wpAny_bind (wpAny_field hz rfl (x := .bool false) rfl ?_)
  show wpAny _ _ (field (.ref z) 3 >>= _) _ _ _
  refine wpAny_bind (wpAny_field hz rfl (x := .ref TI) rfl ?_)
  refine wpAny_bind (wpAny_seqItems hTI rfl ?_)
  show wpAny _ _ (Builtin.SmallTypes.ownedTupleIsFree (.ref z) >>= _) _ _ _
  refine wpAny_bind (wpAny_tupleHeld_zip hz hT fun h₁ hz₁ hs₁ => ?_)
  replace hs₁ : Heap.SameBut z hp h₁ := hs₁
  simp only [Bool.false_eq_true, if_false]
  refine wpAny_bind ?_
  rw [← Array.forIn_toList]
  simp only [List.forIn_cons, List.forIn_nil]
  refine wpAny_bind (wpAny_bind (wpAny_holding ?_))
  show wpAny _ _ (Builtin.SmallTypes.nextOf (.ref i1) >>= _) _ _ ⟨h₁, g, d, tk0, os⟩
  refine wpAny_bind (D1.item i _ _ _ hlt1 (D1.over st1 hs₁ S.zf1) fun x1 p1 tk1 hx1 sn1 hp1 => wpAny_pure ?_)
  replace hp1 : Heap.SameBut i1 h₁ p1 := hp1
  refine wpAny_pure ?_
  refine wpAny_bind (wpAny_bind (wpAny_holding ?_))
  show wpAny _ _ (Builtin.SmallTypes.nextOf (.ref i2) >>= _) _ _ ⟨p1, g, d, tk1, os⟩
  refine wpAny_bind (D2.item i _ _ _ hlt2 (D2.over (D2.over st2 hs₁ S.zf2) hp1 S.sep1_2) fun x2 p2 tk2 hx2 sn2 hp2 => wpAny_pure ?_)
  replace hp2 : Heap.SameBut i2 p1 p2 := hp2
  refine wpAny_pure (wpAny_pure ?_)
  show wpAny _ _ (newTuple [x1, x2] >>= _) _ _ ⟨p2, g, d, tk2, os⟩
  refine wpAny_bind (wpAny_newTuple ?_)
  have hsz : p2.objs.size = hp.objs.size := by rw [hp2.1, hp1.1, hs₁.1]
  have hz3 : IsZipHeld p2 z TI TO T true := hp2.extBut _ _ S.zi2 (hp1.extBut _ _ S.zi1 hz₁)
  have hk : ∀ c o, c ≠ z → c ≠ i1 → c ≠ i2 → hp.get? c = some o → p2.get? c = some o := fun c o c1 c2 c3 e => hp2.extBut _ _ c3 (hp1.extBut _ _ c2 (hs₁.extBut _ _ c1 e))
  have hj1 : St1 (i + 1) p2 := D1.over sn1 hp2 S.sep2_1
  refine wpAny_pure ⟨_, rfl, ?_⟩
  show Q (.ref p2.objs.size) ⟨p2.push { cls := .type "tuple", data := .seq #[x1, x2] }, g, d, tk2, os⟩
  have ht : IsTupOf2 (p2.push { cls := .type "tuple", data := .seq #[x1, x2] }) p2.objs.size x1 x2 := Heap.get?_push_size _ rfl
  have hz4 : (p2.push { cls := .type "tuple", data := .seq #[x1, x2] }).objs.size = p2.objs.size + 1 := Heap.size_push ..
  rw [hsz] at ht hz4 ⊢
  exact hQ x1 x2 _ tk2 hx1 hx2 (Heap.get?_push_of_some _ hz3) (D1.frame _ _ _ hj1 fun b _ o e => Heap.get?_push_of_some _ e) (D2.frame _ _ _ sn2 fun b _ o e => Heap.get?_push_of_some _ e) ht hz4 fun c o c1 c2 c3 e => Heap.get?_push_of_some _ (hk c o c1 c2 c3 e)
theorem zipH_next_end {Q : Fin → Shared → Prop} (S : ZipSep2 z TI TO i1 i2 fp1 fp2) (D1 : Draws prog w A i1 fp1 n1 P1 St1) (D2 : Draws prog w A i2 fp2 n2 P2 St2)
    (hz : IsZipHeld s.heap z TI TO T f) (hT : s.heap.get? T = some oT) (hTI : IsTupOf2 s.heap TI (.ref i1) (.ref i2)) (st1 : St1 i s.heap) (st2 : St2 i s.heap) (hle1 : i ≤ n1) (hle2 : i ≤ n2) (hend : i = n1 ∨ i = n2)
    (hE : ∀ h' tk e, (∀ c o, c ≠ z → c ≠ i1 → c ≠ i2 → s.heap.get? c = some o → h'.get? c = some o) → (∃ o, h'.get? e = some o ∧ o.cls = .type "StopIteration") → E (.ref e) { s with heap := h', toks := tk }) :
    wpAny (model prog w) A (Builtin.«zip.__next__» ⟨[.ref z], []⟩) Q E s := by
  obtain ⟨hp, g, d, tk0, os⟩ := s
  show wpAny _ _ (field (.ref z) 2 >>= _) _ _ _
  refine wpAny_bind (wpAny_field hz rfl (x := .bool false) rfl ?_)
  show wpAny _ _ (field (.ref z) 3 >>= _) _ _ _
  refine wpAny_bind (wpAny_field hz rfl (x := .ref TI) rfl ?_)
  refine wpAny_bind (wpAny_seqItems hTI rfl ?_)
  show wpAny _ _ (Builtin.SmallTypes.ownedTupleIsFree (.ref z) >>= _) _ _ _
  refine wpAny_bind (wpAny_tupleHeld_zip hz hT fun h₁ hz₁ hs₁ => ?_)
  replace hs₁ : Heap.SameBut z hp h₁ := hs₁
  simp only [Bool.false_eq_true, if_false]
  refine wpAny_bind ?_
  rw [← Array.forIn_toList]
  simp only [List.forIn_cons, List.forIn_nil]
  refine wpAny_bind (wpAny_bind (wpAny_holding ?_))
  show wpAny _ _ (Builtin.SmallTypes.nextOf (.ref i1) >>= _) _ _ ⟨h₁, g, d, tk0, os⟩
  by_cases e1 : i = n1
  · subst e1
    refine wpAny_bind (D1.done _ _ _ (D1.over st1 hs₁ S.zf1) fun h₂ e hs₂ he => ?_)
    exact hE h₂ tk0 e (fun c o c1 c2 _ x => hs₂ _ _ c2 (hs₁.extBut _ _ c1 x)) he
  · have e2 : i = n2 := hend.resolve_left e1
    subst e2
    refine wpAny_bind (D1.item i _ _ _ (by omega) (D1.over st1 hs₁ S.zf1) fun x1 p1 tk1 hx1 sn1 hp1 => wpAny_pure ?_)
    replace hp1 : Heap.SameBut i1 h₁ p1 := hp1
    refine wpAny_pure ?_
    refine wpAny_bind (wpAny_bind (wpAny_holding ?_))
    show wpAny _ _ (Builtin.SmallTypes.nextOf (.ref i2) >>= _) _ _ ⟨p1, g, d, tk1, os⟩
    refine wpAny_bind (D2.done _ _ _ (D2.over (D2.over st2 hs₁ S.zf2) hp1 S.sep1_2) fun h₂ e hs₂ he => ?_)
    exact hE h₂ tk1 e (fun c o c1 c2 c3 x => hs₂ _ _ c3 (hp1.extBut _ _ c2 (hs₁.extBut _ _ c1 x))) he
theorem wpAny_pyNext_zipH_item {Q : Option Value → Shared → Prop} (S : ZipSep2 z TI TO i1 i2 fp1 fp2) (D1 : Draws prog w A.in1 i1 fp1 n1 P1 St1) (D2 : Draws prog w A.in1 i2 fp2 n2 P2 St2)
    (hz : IsZipHeld s.heap z TI TO T f) (hT : s.heap.get? T = some oT) (hTI : IsTupOf2 s.heap TI (.ref i1) (.ref i2)) (st1 : St1 i s.heap) (st2 : St2 i s.heap) (hlt1 : i < n1) (hlt2 : i < n2)
    (hQ : ∀ x1 x2 h' tk, P1 i x1 → P2 i x2 → IsZipHeld h' z TI TO T true → St1 (i + 1) h' → St2 (i + 1) h' → IsTupOf2 h' s.heap.objs.size x1 x2 → h'.objs.size = s.heap.objs.size + 1 →
      (∀ c o, c ≠ z → c ≠ i1 → c ≠ i2 → s.heap.get? c = some o → h'.get? c = some o) → Q (some (.ref s.heap.objs.size)) { s with heap := h', toks := tk }) :
    wpAny (model prog w) A (pyNext (.ref z)) Q E s := by
  have hTy : s.TypeIs (.ref z) "zip" := ⟨_, hz, rfl⟩
  unfold pyNext
  exact wpAny_bind (wpAny_attempt (wpAny_callSpecial?_slot (name := Str.ofString "__next__") hTy F.slot_zip_next
    (wpAny_call_entry F.slot_zip_next hTy F.entry_zip_next
      (zipH_next_item S D1 D2 hz hT hTI st1 st2 hlt1 hlt2 fun x1 x2 h' tk y1 y2 a1 a3 a4 a5 a6 a7 => wpAny_pure (hQ x1 x2 h' tk y1 y2 a1 a3 a4 a5 a6 a7)) (F.args_zip_next_1 _))))
theorem wpAny_pyNext_zipH_end {Q : Option Value → Shared → Prop} (S : ZipSep2 z TI TO i1 i2 fp1 fp2) (D1 : Draws prog w A.in1 i1 fp1 n1 P1 St1) (D2 : Draws prog w A.in1 i2 fp2 n2 P2 St2)
    (hz : IsZipHeld s.heap z TI TO T f) (hT : s.heap.get? T = some oT) (hTI : IsTupOf2 s.heap TI (.ref i1) (.ref i2)) (st1 : St1 i s.heap) (st2 : St2 i s.heap) (hle1 : i ≤ n1) (hle2 : i ≤ n2) (hend : i = n1 ∨ i = n2)
    (hQ : ∀ h' tk, (∀ c o, c ≠ z → c ≠ i1 → c ≠ i2 → s.heap.get? c = some o → h'.get? c = some o) → Q none { s with heap := h', toks := tk }) : wpAny (model prog w) A (pyNext (.ref z)) Q E s := by
  have hTy : s.TypeIs (.ref z) "zip" := ⟨_, hz, rfl⟩
  unfold pyNext
  refine wpAny_bind (wpAny_attempt (wpAny_callSpecial?_slot (name := Str.ofString "__next__") hTy F.slot_zip_next
    (wpAny_call_entry F.slot_zip_next hTy F.entry_zip_next (zipH_next_end S D1 D2 hz hT hTI st1 st2 hle1 hle2 hend fun h' tk e hk he => ?_) (F.args_zip_next_1 _))))
  obtain ⟨o, ho, hc⟩ := he
  refine wpAny_bind (wpAny_isInstance (T := "StopIteration") (b := true) ⟨o, ho, hc⟩ isSubtype_stop ?_)
  exact wpAny_pure (hQ _ _ hk)
end

/-- zip(a, b) as an argument of dict() -/
theorem pairArg_zipX {prog : Program} {w : World} (z TI TO i1 i2 a b : Addr) (t r : Bool) (S : ZipSep2 z TI TO i1 i2 [i1, a] [i2, b]) (na : a ≠ i1) (nb : b ≠ i2) (xs ys : Array Value) :
    PairArg prog w "zip" z [z, TI, TO, i1, i2, a, b] [z, TO, i1, i2] (min xs.size ys.size) (fun i k v => xs[i]? = some k ∧ ys[i]? = some v)
      (fun h => IsZip h z TI TO .none ∧ IsTupOf2 h TI (.ref i1) (.ref i2) ∧ (∃ x y, IsTupOf2 h TO x y) ∧ itI t i1 a 0 h ∧ itI r i2 b 0 h ∧ itL t a xs h ∧ itL r b ys h) where
  type := fun s ok => ⟨_, ok.1, rfl⟩
  notDict := by decide
  keep := fun h h' ok hk => by
    obtain ⟨hz, hTI, ⟨x, y, hTO⟩, h1, h2, hl1, hl2⟩ := ok
    exact ⟨hk _ _ hz, hk _ _ hTI, ⟨x, y, hk _ _ hTO⟩, itI_at h1 fun o e => hk _ o e, itI_at h2 fun o e => hk _ o e, itL_at hl1 fun o e => hk _ o e, itL_at hl2 fun o e => hk _ o e⟩
  there := fun h ok c hc => by
    obtain ⟨hz, hTI, ⟨x, y, hTO⟩, h1, h2, hl1, hl2⟩ := ok
    obtain ⟨o1, e1, _⟩ := itI_obj h1
    obtain ⟨o2, e2, _⟩ := itI_obj h2
    have there : ∀ {t : Bool} {a : Addr} {us : Array Value}, itL t a us h → ∃ o, h.get? a = some o := fun {t a us} q => by
      cases t with
      | true => obtain ⟨o, e, _⟩ := (show h.IsTuple a us from q); exact ⟨o, e⟩
      | false => obtain ⟨o, e, _⟩ := (show h.IsList a us from q); exact ⟨o, e⟩
    simp only [List.mem_cons, List.not_mem_nil, or_false] at hc
    rcases hc with rfl | rfl | rfl | rfl | rfl | rfl | rfl
    · exact ⟨_, hz⟩
    · exact ⟨_, hTI⟩
    · exact ⟨_, hTO⟩
    · exact ⟨_, e1⟩
    · exact ⟨_, e2⟩
    · exact there hl1
    · exact there hl2
  sub := fun c hc => by simp at hc ⊢; rcases hc with rfl | rfl | rfl | rfl <;> simp
  noKeys := fun A s Q E hA ok h => getAttrOr_miss_zip ok.1 rfl rfl rfl zip_no_keys (by decide +kernel) hA h
  iter := fun A s d Q E hA ok hd hdf h => by
    obtain ⟨hz, hTI, ⟨x, y, hTO⟩, h1, h2, hl1, hl2⟩ := ok
    simp only [List.mem_cons, List.not_mem_nil, or_false, not_or] at hdf
    obtain ⟨dz, dTI, dTO, di1, di2, da, db⟩ := hdf
    have hh : A.in1.handled = none := hA
    have D1 : Draws prog w A.in1 i1 [i1, a] xs.size (fun i v => xs[i]? = some v) (fun i h => itI t i1 a i h ∧ itL t a xs h) := itX_draws hh t i1 a na xs
    have D2 : Draws prog w A.in1 i2 [i2, b] ys.size (fun i v => ys[i]? = some v) (fun i h => itI r i2 b i h ∧ itL r b ys h) := itX_draws hh r i2 b nb ys
    refine wpAny_pyIter_zip hz (h z [z, TO, i1, i2] (fun i h => IsTupOf2 h TI (.ref i1) (.ref i2) ∧ (itI t i1 a i h ∧ itL t a xs h) ∧ (itI r i2 b i h ∧ itL r b ys h) ∧
      ((IsZip h z TI TO .none ∧ ∃ x y, IsTupOf2 h TO x y) ∨ ∃ T f oT, IsZipHeld h z TI TO T f ∧ h.get? T = some oT ∧ T ≠ z ∧ T ≠ i1 ∧ T ≠ i2 ∧ T ≠ d)) s.heap s.toks ?_
      ⟨hTI, ⟨h1, hl1⟩, ⟨h2, hl2⟩, .inl ⟨hz, x, y, hTO⟩⟩ (fun _ _ e => e) fun c hc => .inl hc)
    exact {
      off := fun hm => by
        simp only [List.mem_cons, List.not_mem_nil, or_false] at hm
        rcases hm with e | e | e | e
        · exact dz e
        · exact dTO e
        · exact di1 e
        · exact di2 e
      frame := fun i h₁ h₂ st hk => by
        obtain ⟨hTI, ⟨h1, hl1⟩, ⟨h2, hl2⟩, hz⟩ := st
        refine ⟨hk _ _ (Ne.symm dTI) hTI, ⟨itI_at h1 fun o e => hk _ o (Ne.symm di1) e, itL_at hl1 fun o e => hk _ o (Ne.symm da) e⟩, ⟨itI_at h2 fun o e => hk _ o (Ne.symm di2) e, itL_at hl2 fun o e => hk _ o (Ne.symm db) e⟩, ?_⟩
        rcases hz with ⟨hz, x, y, hTO⟩ | ⟨T, f, oT, hz, hT, r1, r2, r3, r4⟩
        · exact .inl ⟨hk _ _ (Ne.symm dz) hz, x, y, hk _ _ (Ne.symm dTO) hTO⟩
        · exact .inr ⟨T, f, oT, hk _ _ (Ne.symm dz) hz, hk _ _ r4 hT, r1, r2, r3, r4⟩
      item := fun i s₁ Q₁ E₁ hi st hds hQ => by
        obtain ⟨hTI, g1, g2, hz⟩ := st
        have hix : i < xs.size := Nat.lt_of_lt_of_le hi (Nat.min_le_left ..)
        have hiy : i < ys.size := Nat.lt_of_lt_of_le hi (Nat.min_le_right ..)
        have lt : ∀ {c o}, s₁.heap.get? c = some o → s₁.heap.objs.size ≠ c := fun e => Nat.ne_of_gt (Heap.lt_size e)
        have n1 : s₁.heap.objs.size ≠ i1 := by obtain ⟨o, e, _⟩ := itI_obj g1.1; exact lt e
        have n2 : s₁.heap.objs.size ≠ i2 := by obtain ⟨o, e, _⟩ := itI_obj g2.1; exact lt e
        rcases hz with ⟨hz, x, y, hTO⟩ | ⟨T, f, oT, hz, hT, r1, r2, r3, r4⟩
        · refine wpAny_pyNext_zipD2_item S D1 D2 hz hTI hTO g1 g2 hix hiy fun x1 x2 h' tk p1 p2 a1 a2 a3 a4 a5 a6 hk => ?_
          exact hQ s₁.heap.objs.size _ _ h' tk ⟨p1, p2⟩ (.inl ⟨_, a5, rfl, _, rfl⟩)
            ⟨hk _ _ S.TIz S.TITO S.TIi1 S.TIi2 hTI, a3, a4, .inr ⟨s₁.heap.objs.size, false, _, a1, a5, lt hz, n1, n2, Nat.ne_of_gt hds⟩⟩
            fun c o hc e => hk c o (fun x => hc (by simp [x])) (fun x => hc (by simp [x])) (fun x => hc (by simp [x])) (fun x => hc (by simp [x])) e
        · refine wpAny_pyNext_zipH_item S D1 D2 hz hT hTI g1 g2 hix hiy fun x1 x2 h' tk p1 p2 a1 a3 a4 a5 a6 hk => ?_
          exact hQ s₁.heap.objs.size _ _ h' tk ⟨p1, p2⟩ (.inl ⟨_, a5, rfl, _, rfl⟩)
            ⟨hk _ _ S.TIz S.TIi1 S.TIi2 hTI, a3, a4, .inr ⟨T, true, oT, a1, hk _ _ r1 r2 r3 hT, r1, r2, r3, r4⟩⟩
            fun c o hc e => hk c o (fun x => hc (by simp [x])) (fun x => hc (by simp [x])) (fun x => hc (by simp [x])) e
      done := fun s₁ Q₁ E₁ st hQ => by
        obtain ⟨hTI, g1, g2, hz⟩ := st
        have hend : min xs.size ys.size = xs.size ∨ min xs.size ys.size = ys.size := by omega
        rcases hz with ⟨hz, x, y, hTO⟩ | ⟨T, f, oT, hz, hT, r1, r2, r3, r4⟩
        · exact wpAny_pyNext_zipD2_end S D1 D2 hz hTI hTO g1 g2 (Nat.min_le_left ..) (Nat.min_le_right ..) hend fun h' tk hk => hQ h' tk fun c o hc e => hk c o (fun x => hc (by simp [x])) (fun x => hc (by simp [x])) (fun x => hc (by simp [x])) (fun x => hc (by simp [x])) e
        · exact wpAny_pyNext_zipH_end S D1 D2 hz hT hTI g1 g2 (Nat.min_le_left ..) (Nat.min_le_right ..) hend fun h' tk hk => hQ h' tk fun c o hc e => hk c o (fun x => hc (by simp [x])) (fun x => hc (by simp [x])) (fun x => hc (by simp [x])) e }

/-! ### dict(zip(a, b)) -/
theorem zip_vals {P : Program} {w : World} : ∀ {xs ys : List V} {us ws : List Value} {kvs : List (Key × V)}, Vals xs us → Vals ys ws → kvs.length = min xs.length ys.length → (∀ (i : Nat) (x y : V), xs[i]? = some x → ys[i]? = some y → ∃ k, kvs[i]? = some (k, y) ∧ x = kV k) →
    ∃ prs : List (Key × Value), KV kvs prs ∧ prs.length = min us.length ws.length ∧ ∀ (i : Nat) (u w' : Value), us[i]? = some u → ws[i]? = some w' → ∃ k, prs[i]? = some (k, w') ∧ (mixKind P w).is k u = true
  | [], ys, us, ws, kvs, h1, h2, hl, _ => by
    cases h1
    have : kvs = [] := List.eq_nil_of_length_eq_zero (by simpa using hl)
    subst this
    exact ⟨[], .nil, by simp, fun i u w' h => by simp at h⟩
  | x :: xs, [], us, ws, kvs, h1, h2, hl, _ => by
    cases h2
    have : kvs = [] := List.eq_nil_of_length_eq_zero (by simpa using hl)
    subst this
    exact ⟨[], .nil, by simp, fun i u w' _ h => by simp at h⟩
  | x :: xs, y :: ys, _, _, kvs, .cons a1 b1, .cons a2 b2, hl, hp => by
    cases kvs with
    | nil => first | (simp at hl; done) | (simp at hl; omega)
    | cons q kvs =>
      obtain ⟨k, e, ex⟩ := hp 0 x y rfl rfl
      cases e
      obtain ⟨prs, r1, r2, r3⟩ := zip_vals (P := P) (w := w) (kvs := kvs) b1 b2 (by simp at hl ⊢; omega) fun i x' y' hx hy => by simpa using hp (i + 1) x' y' (by simpa using hx) (by simpa using hy)
      rename_i us ws u0 w0
      refine ⟨(k, _) :: prs, .cons ⟨rfl, a2⟩ r1, by first | (simp [r2]; done) | (simp [r2]; omega), fun i u w' hu hw => ?_⟩
      cases i with
      | zero =>
        cases hu
        cases hw
        subst ex
        exact ⟨k, rfl, kV_is a1⟩
      | succ i => exact r3 i u w' (by simpa using hu) (by simpa using hw)
def tDZ (K : PySem.W.Frag) (ta : TA) : TE := fun σ H Q => ta σ H fun vs H1 => ∃ t r a b xs ys kvs, vs = [.ref a, .ref b] ∧ SqX K H1 t a xs ∧ SqX K H1 r b ys ∧ kvs.length = min xs.length ys.length ∧
  (∀ (i : Nat) (x y : V), xs[i]? = some x → ys[i]? = some y → ∃ k : Key, kvs[i]? = some (k, y) ∧ x = kV k) ∧ ∀ p, H1 p = none → Q (.ref p) (upd H1 p (.dK (mergeK [] kvs)))
theorem pe_dictzip {X : Cx} {e f : Expr} {ta : TA} {p p2 pos pos2 : Pos} (hc : X.calm = true) (hg : Gl X "dict") (hm : X.mg "dict" = none) (hg2 : Gl X "zip") (hm2 : X.mg "zip" = none) (ha : PA X [e, f] ta)
    (hs1 : starEach [Expr.Call (.Name "zip" p2) [e, f] [] pos2] X.env = (false, eval (Expr.Call (.Name "zip" p2) [e, f] [] pos2) X.env) :: starEach [] X.env)
    (hs : starEach [e, f] X.env = (false, eval e X.env) :: starEach [f] X.env) (hpl : (backTo pos2 (starEach [f] X.env)).any (·.1) = false) : PE X (.Call (.Name "dict" p) [.Call (.Name "zip" p2) [e, f] [] pos2] [] pos) (tDZ X.K ta) := by
  refine ⟨fun pins s σ H Q I h => ?_⟩
  refine Call_ (ld_blt I hg hm PyProof.Rows.boot_dict (PyProof.Rows.callWith_type1 ?_ hs1 rfl))
  rw [hs1]
  show wpAny _ _ (spliced ((false, eval (Expr.Call (.Name "zip" p2) [e, f] [] pos2) X.env) :: [])) _ _ s
  refine Calls.spliced_cons ?_
  refine Call_ (ld_blt I hg2 hm2 PyProof.Rows.boot_zip (PyProof.Rows.callWith_type1 (thn (ha.run pos2 pins s σ H _ I h) fun us s1 ⟨vs, H1, I1, r1, q1⟩ => ?_) hs hpl))
  obtain ⟨t, r, a, b, xs, ys, kvs, rfl, g1, g2, hl, hkv, q⟩ := q1
  obtain ⟨u, us', rfl, ru, rr⟩ : ∃ u us', us = u :: us' ∧ RelV (.ref a) u ∧ Vals [.ref b] us' := by cases r1 with | cons r rr => exact ⟨_, _, rfl, r, rr⟩
  obtain ⟨u2, rfl, ru2⟩ : ∃ u, us' = [u] ∧ RelV (.ref b) u := by cases rr with | cons r rr => cases rr; exact ⟨_, rfl, r⟩
  cases (show u = Value.ref a from ru)
  cases (show u2 = Value.ref b from ru2)
  obtain ⟨ws, v1, p1, z1⟩ := sqx_inv I1 g1
  obtain ⟨ts, v2, p2', z2⟩ := sqx_inv I1 g2
  refine zip_begins2 (itX_begins t a ws.toArray) (itX_begins r b ts.toArray) p1 p2' fun h' k1 k2 k3 k4 k5 k6 k7 => ?_
  refine Calls.spliced_nil ?_
  have I2 : Inv X pins σ H1 { s1 with heap := h' } := I1.kept (t' := s1.toks) k7
  have fr : ∀ c, c ∈ [s1.heap.objs.size + 4, s1.heap.objs.size + 3, s1.heap.objs.size, s1.heap.objs.size + 1] → FpOk X pins H1 c := fun c hc => by
    have le : s1.heap.objs.size ≤ c := by
      simp only [List.mem_cons, List.not_mem_nil, or_false] at hc
      rcases hc with e | e | e | e <;> subst e
      · exact Nat.le_add_right _ _
      · exact Nat.le_add_right _ _
      · exact Nat.le_refl _
      · exact Nat.le_add_right _ _
    exact I1.fpOk le (I1.hok.fresh le)
  have la := itL_lt p1
  have lb := itL_lt p2'
  have S := zip_sep2 (N := s1.heap.objs.size) (fp1 := [a]) (fp2 := [b]) (fun c hc => by rw [List.mem_singleton.mp hc]; exact la) fun c hc => by rw [List.mem_singleton.mp hc]; exact lb
  have P := pairArg_zipX (prog := X.prog) (w := X.w) (s1.heap.objs.size + 4) (s1.heap.objs.size + 2) (s1.heap.objs.size + 3) s1.heap.objs.size (s1.heap.objs.size + 1) a b t r S (Nat.ne_of_lt la) (Nat.ne_of_lt (Nat.lt_succ_of_lt lb)) ws.toArray ts.toArray
  obtain ⟨prs, r1', r2, r3⟩ := zip_vals (P := X.prog) (w := X.w) v1 v2 hl hkv
  refine call_dict_pairs (s := { s1 with heap := h' }) (knd := mixKind X.prog X.w) (kvs := prs) P (I.ok.hd hc) ⟨k1, k2, ⟨_, _, k3⟩, itX_new k4, itX_new k5, itL_at p1 fun o e => k7 _ _ e, itL_at p2' fun o e => k7 _ _ e⟩
    ⟨by simp [r2], fun i key v hi => ?_⟩ (by have := v1.length; simp; omega) fun h2 tk hd' hk => ?_
  · exact r3 i key v (by simpa using hi.1) (by simpa using hi.2)
  · have hn : H1 h'.objs.size = none := I2.hok.fresh (Nat.le_refl _)
    have hmz : (h'.objs.size == sysModules) = false := beq_eq_false_iff_ne.mpr (Nat.ne_of_gt I2.big)
    have hlen : (mergeK [] kvs).length ≤ sizeLine := by
      refine Nat.le_trans (length_mergeK kvs []) ?_
      rw [List.length_nil, Nat.zero_add, hl]
      omega
    exact ⟨.ref h'.objs.size, upd H1 h'.objs.size (.dK (mergeK [] kvs)), I2.turnedNew (t' := tk) (fun c o hb e => hk c o hb e) fr (Nat.le_refl _) (show ObjOk X.prog X.w _ _ _ (.dK (mergeK [] kvs)) from ⟨hlen, hmz, merged [] prs, KV.merge r1' .nil, hd'⟩), rfl, q _ hn⟩

section
variable {X : Cx} {ec : EC} {E : L2.WX} {e f : Expr} {p p2 pos pos2 : Pos}
def dzD (l : List D) : Option RV := (pairsD l).map fun ps => .own (.dic false (mergeD [] ps))
def dictZipM (ms : M (List D)) : M RV := bnd ms fun ds => lift ((zipA ds).bind dzD)
theorem zip_pairs {K : PySem.W.Frag} {H : Hp} : ∀ {as bs : List D} {xs ys : List V} {ps : List (Key × D)}, pairsD (zipL as bs) = some ps → AtAll K H as xs → AtAll K H bs ys →
    ∃ qs : List (Key × V), qs.length = min xs.length ys.length ∧ ps.length = qs.length ∧ (∀ (i : Nat) (x y : V), xs[i]? = some x → ys[i]? = some y → ∃ k : Key, qs[i]? = some (k, y) ∧ x = kV k) ∧ ∀ (i : Nat) (p : Key × D), ps[i]? = some p → ∃ v, qs[i]? = some (p.1, v) ∧ At K H p.2 v
  | [], bs, xs, ys, ps, e, h1, h2 => by
    rw [zipL] at e
    · cases e
      rw [h1.inv0]
      exact ⟨[], by simp, rfl, fun i x y h => by simp at h, fun i p h => by simp at h⟩
    · intro _ _ _ _ z; cases z
  | a :: as, [], xs, ys, ps, e, h1, h2 => by
    rw [zipL] at e
    · cases e
      rw [h2.inv0]
      exact ⟨[], by simp, rfl, fun i x y _ h => by simp at h, fun i p h => by simp at h⟩
    · intro _ _ _ _ _ z; cases z
  | a :: as, b :: bs, xs, ys, ps, e, h1, h2 => by
    rw [zipL] at e
    have e : ((atomD a).bind fun κ => (pairsD (zipL as bs)).map fun z => (κ, b) :: z) = some ps := e
    obtain ⟨κ, e1, e2⟩ := Option.bind_eq_some_iff.mp e
    obtain ⟨zs, e3, rfl⟩ := Option.map_eq_some_iff.mp e2
    obtain ⟨x, xr, rfl, a1, a2⟩ := h1.inv
    obtain ⟨y, yr, rfl, b1, b2⟩ := h2.inv
    obtain ⟨qs, l1, l2, l3, l4⟩ := zip_pairs e3 a2 b2
    have ek := atom_at (At.ct a1) e1
    refine ⟨(κ, y) :: qs, by first | (simp [l1]; done) | (simp [l1]; omega), by simp [l2], fun i x' y' hx hy => ?_, fun i p hp => ?_⟩
    · cases i with
      | zero => cases hx; cases hy; exact ⟨κ, rfl, ek⟩
      | succ i => exact l3 i x' y' (by simpa using hx) (by simpa using hy)
    · cases i with
      | zero => cases hp; exact ⟨y, rfl, b1⟩
      | succ i => exact l4 i p (by simpa using hp)
theorem dr_dictzip {ms : M (List D)} (hc : X.calm = true) (hg : Gl X "dict") (hm : X.mg "dict" = none) (hg2 : Gl X "zip") (hm2 : X.mg "zip" = none) (ha : DA X ec E [e, f] ms)
    (hs1 : starEach [Expr.Call (.Name "zip" p2) [e, f] [] pos2] X.env = (false, eval (Expr.Call (.Name "zip" p2) [e, f] [] pos2) X.env) :: starEach [] X.env)
    (hs : starEach [e, f] X.env = (false, eval e X.env) :: starEach [f] X.env) (hpl : (backTo pos2 (starEach [f] X.env)).any (·.1) = false) : DR X ec E (.Call (.Name "dict" p) [.Call (.Name "zip" p2) [e, f] [] pos2] [] pos) (dictZipM ms) := by
  obtain ⟨t, h1, h2⟩ := ha.run
  refine DR.mk0 (pe_dictzip hc hg hm hg2 hm2 h1 hs1 hs hpl) fun σ H s Q hR hm => ?_
  refine h2 σ H s _ hR (hm.bnd.imp fun ds s1 H1 _ e1 R1 S1 hk vs hvs => ?_)
  obtain ⟨rv, hd, hk2⟩ := hk.lift
  obtain ⟨l, hz, hd⟩ := Option.bind_eq_some_iff.mp hd
  unfold dzD at hd
  obtain ⟨ps, hps, hd⟩ := Option.map_eq_some_iff.mp hd
  subst hd
  unfold zipA at hz
  split at hz
  · rename_i d e'
    obtain ⟨x, hx, hz⟩ := Option.bind_eq_some_iff.mp hz
    obtain ⟨y, hy, hz⟩ := Option.bind_eq_some_iff.mp hz
    split at hz
    · cases hz
    cases hz
    obtain ⟨v, r, rfl, a1, a2⟩ := hvs.inv
    obtain ⟨v', r', rfl, a3, a4⟩ := a2.inv
    rw [a4.inv0]
    obtain ⟨a, xs, rfl, b1, b2, b3⟩ := at_row a1 hx
    obtain ⟨b, ys, rfl, c1, c2, c3⟩ := at_row a3 hy
    obtain ⟨qs, l1, l2, l3, l4⟩ := zip_pairs hps b3 c3
    refine ⟨x.1, y.1, a, b, xs, ys, qs, rfl, b1, c1, l1, l3, fun p hp => hk2 _ (.new hp) (R1.toRel0.evo (A := noA) (.new hp) fun _ _ z => z) _ ⟨p, rfl, e1.free p hp, _, upd_same, AtK.ext (Evo.new (A := noA) hp).ext _ _ (merge_at (kvs := []) (es := []) l2 l4 .nil .nil)⟩⟩
  · cases hz
end
end Dt

end
section
set_option maxRecDepth 100000
set_option autoImplicit false
/-! A list so many times. -/
namespace Dt
open PySem PySem.Spec PyProof.Rows L2
section
variable {X : Cx}
def rRepL : R2 := fun x y H Q => ∃ l k xs, x = .ref l ∧ y = .int k ∧ Rd H l (.lst xs) ∧ -1000 ≤ k ∧ k ≤ 5000 ∧ xs.length ≤ 1000 ∧ ∀ p, H p = none → Q (.ref p) (upd H p (.lst (List.replicate k.toNat xs).flatten))
theorem fold_reps (xs : List Value) : ∀ (m : Nat) (acc : List Value), List.foldl (fun (a b : Array Value) => a ++ b) acc.toArray (List.replicate m xs.toArray) = (acc ++ (List.replicate m xs).flatten).toArray
  | 0, acc => by simp
  | m + 1, acc => by
    rw [List.replicate_succ, List.foldl_cons, show acc.toArray ++ xs.toArray = (acc ++ xs).toArray by simp, fold_reps xs m]
    simp [List.replicate_succ]
theorem op_repL : OpR X (binaryOp .Mult) rRepL := by
  rintro pins s σ H x y v u Q I rx ry ⟨l, k, xs, rfl, rfl, hH, h1, h2, hz, q⟩
  obtain ⟨tk, rfl⟩ := ry
  cases rx
  obtain ⟨hxz, its, cap, re, hlen, ob⟩ := rd_lst I hH
  have small : its.toArray.size * k.toNat ≤ 5000000 := by
    have a : its.toArray.size ≤ 1000 := by rw [List.size_toArray, ← hlen]; exact hz
    exact Nat.le_trans (Nat.mul_le_mul a (show k.toNat ≤ 5000 by omega)) (by decide)
  have fits : ¬ (!Builtin.List.listFitsIndex k) = true := by rw [fitsIndex_both (by omega) (by omega)]; exact Bool.false_ne_true
  have room : ¬ its.toArray.size * k.toNat > (2 ^ 63 - 1) / 8 := by omega
  have short : ¬ Builtin.List.listTooLong (its.toArray.size * k.toNat) = true := by rw [notLongL (by rw [sizeLine_eq]; omega)]; exact Bool.false_ne_true
  have same : List.foldl (fun x1 x2 => x1 ++ x2) #[] (List.replicate (if its.toArray.isEmpty = true then 0 else k.toNat) its.toArray) = (List.replicate k.toNat its).flatten.toArray := by
    have f := fold_reps its (if its.toArray.isEmpty = true then 0 else k.toNat) []
    rw [List.nil_append] at f
    refine f.trans ?_
    cases its with
    | nil => simp
    | cons a r => rw [if_neg (by simp)]
  refine wpAny_binaryOp_repeat_ref (T := "list") (U := "int") (by decide) ⟨_, ob, rfl⟩ (fun z => typeIs_int z k tk) noFill_list_mul PySem.F.fills_int_mul PySem.F.slot_int_rmul repeat_list PySem.F.slot_int_index.lookup (call_meets PySem.F.slot_int_rmul (typeIs_int s k tk) PySem.F.entry_int_rmul (PySem.F.args_int_rmul_2 _ _) (int___rmul___int_list k tk l its.toArray cap) ⟨ob, rfl, ⟨_, ob, rfl⟩, call_meets PySem.F.slot_list_mul ⟨_, ob, rfl⟩ PySem.F.entry_list_mul (PySem.F.args_list_mul_2 _ _) (AutoListH.list___mul___list_int_3 l its.toArray cap k tk fits room short) ⟨ob, ?_⟩⟩)
  rw [same]
  exact ⟨.ref _, _, I.lnew (t' := s.toks) (re.rep k.toNat) (by rw [PyProof.Rows.lm_len_rep_flat, Nat.mul_comm, hlen, ← List.size_toArray, sizeLine_eq]; omega), rfl, q _ I.fresh⟩
def mulF : D → D → Option RV
  | .lst ds, .int n => if ds.length ≤ 1000 ∧ -1000 ≤ n ∧ n ≤ 5000 then some (.own (.lst (List.replicate n.toNat ds).flatten)) else none
  | d, e => mulE d e
theorem at_reps {K : PySem.W.Frag} {H : Hp} {ds : List D} {xs : List V} (h : AtAll K H ds xs) : ∀ m : Nat, AtAll K H (List.replicate m ds).flatten (List.replicate m xs).flatten
  | 0 => .nil
  | m + 1 => by
    rw [List.replicate_succ, List.replicate_succ, List.flatten_cons, List.flatten_cons]
    exact h.app (at_reps h m)
theorem op_mulF : OpR X (binaryOp .Mult) (rC2 X.K mulF) := by
  refine OpR.imp (op_mulE.or op_repL) ?_
  rintro x y H Q ⟨d, e, r, hd, he, hg, hb, q⟩
  unfold mulF at hg
  split at hg
  · split at hg
    · rename_i c
      cases hg
      obtain ⟨a, xs, rfl, h1, h2⟩ := hd.lst
      rw [he.int]
      exact .inr ⟨a, _, xs, rfl, rfl, h1, c.2.1, c.2.2, by rw [h2.len]; exact c.1, fun p hp => q _ _ (.new hp) (new_own_lst hp (at_reps h2 _))⟩
    · cases hg
  · exact .inl ⟨_, _, _, hd, he, hg, hb, q⟩
end
end Dt

end
section
set_option maxRecDepth 100000
set_option autoImplicit false
/-! Texts of numbers; texts joined. -/
namespace Dt
open PySem PySem.Spec PyProof.Rows L2
section
variable {X : Cx}
def tx (i : Int) : Str := Str.ofString (toString i)
def strD : List D → Option D
  | [.int i] => if i.natAbs.log2 < 1920 then some (.str (tx i)) else none
  | _ => none
theorem call_strV : CallR X (.type "str") (rVn X.K strD) := by
  intro pins s σ H vs us Q I rv h
  obtain ⟨ds, r, hcs, hg, hb, hq⟩ := h
  unfold strD at hg
  split at hg
  · split at hg
    · rename_i c
      cases hg
      obtain ⟨v, rfl, cv⟩ := ctAll1 hcs
      cases cv.int
      exact call_str_int pins s σ H _ us Q I rv ⟨_, rfl, c, hq _ _ .self rfl⟩
    · cases hg
  · cases hg
def strsL : List D → Option (List Str)
  | [] => some []
  | .str x :: ds => (strsL ds).map (x :: ·)
  | _ :: _ => none
theorem strs_at {K : PySem.W.Frag} {H : Hp} : ∀ {ds : List D} {xs : List V} {ys : List Str}, AtAll K H ds xs → strsL ds = some ys → xs = ys.map V.str
  | [], _, ys, h, e => by
    have e : some [] = some ys := e
    cases e
    rw [h.inv0]
    rfl
  | d :: ds, xs, ys, h, e => by
    cases d with
    | str x =>
      obtain ⟨zs, e1, rfl⟩ := Option.map_eq_some_iff.mp (show (strsL ds).map (x :: ·) = some ys from e)
      obtain ⟨y, t, rfl, h1, h2⟩ := h.inv
      rw [strs_at h2 e1, List.map_cons, (At.ct h1).str]
    | _ => cases e
def joinG : D → List D → Option D
  | .str a, [.lst ds] => (strsL ds).bind fun ys => if (ys.map (·.length)).sum + ys.length * a.length ≤ 16777216 then some (.str (Txt.join a ys)) else none
  | _, _ => none
theorem mt_joinV : MtR X "str.join" (rRead X.K joinG) := by
  intro pins s σ H x vs v us Q I rx rv h
  obtain ⟨d, ds, r, cd, hv, hg, hb, q⟩ := h
  unfold joinG at hg
  split at hg
  · rename_i a zs
    obtain ⟨ys, e1, e2⟩ := Option.bind_eq_some_iff.mp hg
    split at e2
    · rename_i c
      cases e2
      obtain ⟨y, t, rfl, h3, h4⟩ := hv.inv
      rw [h4.inv0] at rv
      cases cd.str
      obtain ⟨p, xs, rfl, g1, g2⟩ := (At.ct h3).lst
      have e3 := strs_at g2 e1
      subst e3
      exact mt_join pins s σ H _ _ v us Q I rx rv ⟨a, p, ys, rfl, rfl, .inl (.inl g1), c, q _ _ .self rfl⟩
    · cases e2
  · cases hg
end
theorem ofString_app (a b : String) : Str.ofString (a ++ b) = Str.ofString a ++ Str.ofString b := by
  rw [Str.ofString_eq_toList, Str.ofString_eq_toList, Str.ofString_eq_toList]
  refine Str.ext' ?_
  rw [Str.cps_append]
  simp
theorem tx_neg {i : Int} (h : i < 0) : tx i = "-" ++ tx (-i) := by
  unfold tx
  match i, h with
  | .negSucc m, _ =>
    show Str.ofString ("-" ++ toString (m + 1)) = _
    rw [ofString_app]
    rfl
theorem tx_len {i : Int} (h1 : -1000000000000 < i) (h2 : i < 1000000000000) : (tx i).length ≤ 20 := by
  by_cases h : i < 0
  · rw [tx_neg h]
    have := toString_length_le (v := -i) (k := 12) (by omega) (by decide) (by omega)
    have e : ("-" ++ tx (-i)).length = 1 + (tx (-i)).length := by
      show (("-" : Str).cps ++ (tx (-i)).cps).size = _
      simp [Str.length]
      rfl
    rw [e]
    unfold tx
    omega
  · have := toString_length_le (v := i) (k := 12) (by omega) (by decide) (by omega)
    unfold tx
    omega
theorem str_int (i : Int) (h1 : -1000000000000 < i) (h2 : i < 1000000000000) : strD [.int i] = some (.str (tx i)) := by
  show (if i.natAbs.log2 < 1920 then some (D.str (tx i)) else none) = _
  rw [if_pos]
  have a : i.natAbs < 2 ^ 64 := by omega
  by_cases z : i.natAbs = 0
  · rw [z]; decide
  · have := (Nat.log2_lt z).mpr a
    omega
end Dt

end
section
set_option maxRecDepth 100000
set_option autoImplicit false
/-! What is never come to; two places of a list exchanged. -/
namespace Dt
open PySem PySem.Spec PyProof.Rows L2
section
variable {X : Cx} {ec : EC} {E : L2.WX} {e o1 o2 i1e i2e : Expr} {pos spos1 spos2 px : Pos}
def neverS : MS := fun _ => none
theorem ds_never {ow : List Nat} {st : Stmt} : DS X ec E ow st neverS :=
  ⟨fun _ _ _ => False, ⟨fun _ _ _ _ _ _ h => h.elim⟩, fun _ _ _ _ _ _ _ _ _ _ h => h⟩
theorem pg_bnd {tg : Expr} {g : TG} (h : PG X tg g) : PG X tg (fun v σ H Q => g v σ H fun σ' H' => Bounded X.K H' → Q σ' H') := by
  refine ⟨fun pins s σ H v u Q I r hq => ?_⟩
  refine thn (h.run pins s σ H v u _ I r hq) fun _ s1 hs => ?_
  obtain ⟨σ', H', J, q⟩ := hs
  exact ⟨σ', H', J, q (bounded_of J)⟩
def storeN (i : Nat) (v k : D) (n : MS) : MS := fun s => match s[i]? with
  | some (some (.own d)) => match setG d k v with
    | some d' => n (s.set i (some (.own d')))
    | none => none
  | _ => none
def st2 (i : Nat) (v : D) (mk : M D) (n : MS) : MS := bndS (hasSlot i) fun _ => bndS mk fun k => storeN i v k n
theorem sub_run {i : Nat} {mk : M D} {o k : Expr} {spos : Pos} (hu : X.A.units + 1 < cLine) (ho : PE X o (tVar i)) (hk : DV X ec E k mk)
    (ha : ∀ v, assign (.Subscript o k spos) X.env v = (do
      let ov ← holding [v] (eval o X.env)
      let iv ← holding [v, ov] (eval k X.env)
      standAt spos
      holding [v, ov, iv] (setItem ov iv v)
      release [v, ov, iv] [])) :
    ∃ g, PG X (.Subscript o k spos) g ∧ ∀ (c : Ent), c.K = X.K → c.ec = ec → c.E = E → ∀ (σ : Sl) (H : Hp) (s : DSt) (v : V) (dv : D) (D0 : Ends) (n : MS) (Q : Sl → Hp → Prop), RelS c σ H s → At c.K H dv v → EndS c H D0 (st2 i dv mk n s) →
      (∀ s' H', Ext H H' → RelS c σ H' s' → EndS c H' D0 (n s') → Q σ H') → g v σ H Q := by
  obtain ⟨tk, h3, h4⟩ := hk.run
  have ho2 : ∀ ec E, Comes X.K ec E (RPend X.K (.slot i)) (hasSlot i) (tVar i) := fun ec E σ H s Q hR hm => by
    unfold hasSlot at hm
    cases q : s[i]? with
    | none => rw [q] at hm; exact hm.elim
    | some o =>
      rw [q] at hm
      cases o with
      | none => exact hm.elim
      | some r =>
        obtain ⟨v, h1, h2⟩ := hR.ok i r q
        exact ⟨v, h1, hm H .refl hR (Sub.refl _) v h1⟩
  refine ⟨_, pg_bnd (pg_sub ho h3 (set_own hu) ha), fun c k1 k2 k3 σ H1 s1 v dv D0 n Q R1 hv hk1 hQ => ?_⟩
  have h4' : Comes c.K c.ec c.E (RVal c.K) mk tk := by rw [k1, k2, k3]; exact h4
  have ho' : Comes c.K c.ec c.E (RPend c.K (.slot i)) (hasSlot i) (tVar i) := by rw [k1]; exact ho2 _ _
  show tVar i σ H1 (fun o H1 => tk σ H1 fun i H2 => rSetD2 X.K o i v H2 fun H3 => Bounded X.K H3 → Q σ H3)
  refine useE (k := fun _ => bndS mk fun k => storeN i dv k n) ho' R1 hk1 fun _ s2 H2 x ev2 sb2 R2 hx hk2 => ?_
  refine useE (k := fun k => storeN i dv k n) h4' R2 hk2 fun dk s3 H3 y ev3 sb3 R3 hy hk3 => ?_
  have hx : σ[i]? = some (some x) := hx
  unfold storeN at hk3
  cases q : s3[i]? with
  | none => rw [q] at hk3; exact hk3.elim
  | some o =>
    rw [q] at hk3
    cases o with
    | none => exact hk3.elim
    | some r =>
      cases r with
      | val d => exact hk3.elim
      | own d =>
        dsimp only at hk3
        cases q2 : setG d dk dv with
        | none => rw [q2] at hk3; exact hk3.elim
        | some d' =>
          rw [q2] at hk3
          obtain ⟨w, a1, a2⟩ := R3.ok i _ q
          rw [hx] at a1
          cases a1
          obtain ⟨a, rfl, ow'⟩ := a2
          have hv' : At c.K H3 dv v := At.ext (ev2.ext.trans ev3.ext) _ _ hv
          rw [k1] at ow' hv' hy
          have b3 : Bounded X.K H3 := by rw [← k1]; exact R3.bnd
          refine ⟨a, d, dk, dv, d', rfl, ow', hy, hv', q2, b3, fun H' ev od hb => ?_⟩
          have od' : OwnAt c.K H' a d' := by rw [k1]; exact od
          have hb' : Bounded c.K H' := by rw [k1]; exact hb
          have R0 := R3.toRel0.put (r' := .own d') ev q rfl hx ⟨a, rfl, od'⟩
          have R4 := R3.step (ev.mono fun c z => ⟨i, _, q, rfl, by rw [z]; exact hx⟩) ⟨R0, hb'⟩ (Sub.put q rfl)
          exact hQ _ H' ((ev2.ext.trans ev3.ext).trans ev.ext) R4 (EndS.later hk3 ev.ext)
def swapS (m : M D) (j1 : Nat) (k1 : M D) (j2 : Nat) (k2 : M D) : MS := bndS m fun d => match d with
  | .tup [d1, d2] => st2 j1 d1 k1 (st2 j2 d2 k2 nxS)
  | _ => fun _ => none
theorem ds_swap {ow : List Nat} {m k1 k2 : M D} {j1 j2 k : Nat} (hc : X.calm = true) (hu : X.A.units + 1 < cLine) (hv : DV X ec E e m) (ho1 : PE X o1 (tVar j1)) (hk1 : DV X ec E i1e k1) (ho2 : PE X o2 (tVar j2)) (hk2 : DV X ec E i2e k2)
    (ha1 : ∀ v, assign (.Subscript o1 i1e spos1) X.env v = (do
      let ov ← holding [v] (eval o1 X.env)
      let iv ← holding [v, ov] (eval i1e X.env)
      standAt spos1
      holding [v, ov, iv] (setItem ov iv v)
      release [v, ov, iv] []))
    (ha2 : ∀ v, assign (.Subscript o2 i2e spos2) X.env v = (do
      let ov ← holding [v] (eval o2 X.env)
      let iv ← holding [v, ov] (eval i2e X.env)
      standAt spos2
      holding [v, ov, iv] (setItem ov iv v)
      release [v, ov, iv] []))
    (hs1 : (assignEach [.Subscript o1 i1e spos1, .Subscript o2 i2e spos2] X.env).map (·.2) = assign (.Subscript o1 i1e spos1) X.env :: (assignEach [.Subscript o2 i2e spos2] X.env).map (·.2))
    (hs2 : (assignEach [.Subscript o2 i2e spos2] X.env).map (·.2) = assign (.Subscript o2 i2e spos2) X.env :: (assignEach [] X.env).map (·.2))
    (hst : (assignEach [.Subscript o1 i1e spos1, .Subscript o2 i2e spos2] X.env).findIdx? (·.1) = none)
    (hs : swapsWithSole [.Tuple [.Subscript o1 i1e spos1, .Subscript o2 i2e spos2] k px] e pos.line X.env = pure false) (hw : swappedStores [.Tuple [.Subscript o1 i1e spos1, .Subscript o2 i2e spos2] k px] e X.env = pure none)
    (hz : (assignEach [.Tuple [.Subscript o1 i1e spos1, .Subscript o2 i2e spos2] k px] X.env).map (·.2) = [assign (.Tuple [.Subscript o1 i1e spos1, .Subscript o2 i2e spos2] k px) X.env]) :
    DS X ec E ow (.Assign [.Tuple [.Subscript o1 i1e spos1, .Subscript o2 i2e spos2] k px] e pos) (swapS m j1 k1 j2 k2) := by
  obtain ⟨tv, h1, h2⟩ := hv.run
  obtain ⟨g1, p1, r1⟩ := sub_run hu ho1 hk1 ha1
  obtain ⟨g2, p2, r2⟩ := sub_run hu ho2 hk2 ha2
  refine ⟨_, ps_asg h1 (pg_tup hc (pgs_cons p1 (pgs_cons p2 pgs_nil hs2) hs1) rfl hst) hs hw hz, fun c q1 q2 q3 q4 σ H s D0 R hm => ?_⟩
  have h2' : Comes c.K c.ec c.E (RVal c.K) m tv := by rw [q1, q2, q3]; exact h2
  refine useE (k := fun d => match d with
    | .tup [d1, d2] => st2 j1 d1 k1 (st2 j2 d2 k2 nxS)
    | _ => fun _ => none) h2' R hm fun dv s1 H1 v ev1 sb1 R1 hv hk1 => ?_
  revert hk1
  split
  · rename_i d1 d2
    intro hk1
    have hv : At c.K H1 (.tup [d1, d2]) v := hv
    unfold At at hv
    obtain ⟨a, xs, rfl, hq, hall⟩ := hv
    obtain ⟨v1, t1, rfl, a1, hall⟩ := hall.inv
    obtain ⟨v2, t2, rfl, a2, hall⟩ := hall.inv
    have e0 := hall.inv0
    subst e0
    refine ⟨a, [v1, v2], rfl, by rw [← q1]; exact hq.1, rfl, v1, [v2], rfl, ?_⟩
    refine r1 c q1 q2 q3 σ H1 s1 v1 d1 D0 _ _ R1 a1 hk1 fun s2 H2 x1 R2 hk2 => ?_
    refine ⟨v2, [], rfl, ?_⟩
    refine r2 c q1 q2 q3 σ H2 s2 v2 d2 D0 _ _ R2 (At.ext x1 _ _ a2) hk2 fun s3 H3 x2 R3 hk3 => ?_
    exact ⟨rfl, hk3 σ H3 (Ext.refl _) R3⟩
  · exact fun h => h.elim
end
theorem ap_st2 (i : Nat) (v : D) (mk : M D) (n : MS) (s : DSt) : st2 i v mk n s = bndS (hasSlot i) (fun _ => bndS mk fun k => storeN i v k n) s := rfl
theorem ap_storeN (i : Nat) (v k : D) (n : MS) (s : DSt) : storeN i v k n s = (match s[i]? with
  | some (some (.own d)) => match setG d k v with
    | some d' => n (s.set i (some (.own d')))
    | none => none
  | _ => none) := rfl
theorem ap_swapS (m : M D) (j1 : Nat) (k1 : M D) (j2 : Nat) (k2 : M D) (s : DSt) : swapS m j1 k1 j2 k2 s = bndS m (fun d => match d with
  | .tup [d1, d2] => st2 j1 d1 k1 (st2 j2 d2 k2 nxS)
  | _ => fun _ => none) s := rfl
end Dt

end
section
set_option maxRecDepth 100000
set_option autoImplicit false
/-! Dicts compared. -/
namespace Dt
open PySem PySem.Spec PyProof.Rows L2
section
variable {prog : Program} {w : World} {K : Type} [DecidableEq K] {knd : HeapKind prog w K} {A : Around} {E : Value → Shared → Prop} {s : Shared}
inductive HitsH {K : Type} [DecidableEq K] (A : Around) (s : Shared) (xb : List (K × Addr × Value)) : List (K × Addr × Value) → Bool → Prop
  | nil : HitsH A s xb [] true
  | miss {k : K} {p : Addr} {v : Value} {r : List (K × Addr × Value)} : atKey xb k = none → HitsH A s xb ((k, p, v) :: r) false
  | hit {k : K} {p : Addr} {v : Value} {q : Addr} {y : Value} {r : List (K × Addr × Value)} {e b : Bool} : atKey xb k = some (q, y) → SeqAt.EqAt A s v y e → HitsH A s xb r b → HitsH A s xb ((k, p, v) :: r) (e && b)
theorem HitsH.inv {xb : List (K × Addr × Value)} {k : K} {p : Addr} {v : Value} {r : List (K × Addr × Value)} {b : Bool} (h : HitsH A s xb ((k, p, v) :: r) b) :
    (atKey xb k = none ∧ b = false) ∨ ∃ q y e b', atKey xb k = some (q, y) ∧ SeqAt.EqAt A s v y e ∧ HitsH A s xb r b' ∧ b = (e && b') := by
  cases h with
  | miss hn => exact .inl ⟨hn, rfl⟩
  | hit hy he hr => exact .inr ⟨_, _, _, _, hy, he, hr, rfl⟩
theorem samePairsH {nm : String} {a b : Addr} {xa xb : List (K × Addr × Value)} {r : Bool} {Q : Bool → Shared → Prop} (hu : knd.room A) (ha : (a == sysModules) = false) (hb : (b == sysModules) = false)
    (da : s.heap.DictOfH knd a xa) (db : s.heap.DictOfH knd b xb) (hits : xa.length = xb.length → HitsH A s xb xa r) (h : Q (xa.length == xb.length && r) s) :
    wpAny (model prog w) A (Builtin.Dict.samePairs nm a b) Q E s := by
  obtain ⟨oa, es, ep, hoa, _, hda, hea, hia, hna⟩ := da
  obtain ⟨ob, es', ep', hob, _, hdb, heb, hib, hnb⟩ := db
  have hla : xa.length = es.size := (size_of_entries hea).symm
  have hlb : xb.length = es'.size := (size_of_entries heb).symm
  rw [hla, hlb] at h
  unfold Builtin.Dict.samePairs Builtin.Dict.showsAll
  rw [if_neg (show ¬ (a == sysModules) = true by rw [ha]; exact Bool.false_ne_true), if_neg (show ¬ (b == sysModules) = true by rw [hb]; exact Bool.false_ne_true)]
  refine wpAny_bind (wpAny_pure (wpAny_bind (wpAny_pure ?_)))
  refine wpAny_bind (wpAny_dictEntries hoa hda ?_)
  dsimp only
  refine wpAny_bind (wpAny_dictEntries hob hdb ?_)
  by_cases hsz : es.size = es'.size
  case neg =>
    rw [if_pos (by simpa using hsz)]
    have hbf : (es.size == es'.size) = false := by simpa using hsz
    rw [hbf, Bool.false_and] at h
    exact wpAny_bind (wpAny_rule (wpAny_pure h))
  case pos =>
    have h' : Q r s := by simpa [hsz] using h
    have hits' := hits (by rw [hla, hlb]; exact hsz)
    rw [if_neg (by rw [hsz]; simp)]
    refine wpAny_bind (wpAny_dictEpoch hoa hda ?_)
    refine wpAny_bind ?_
    rw [Std.Legacy.Range.forIn_eq_forIn_range']
    simp only [Std.Legacy.Range.size, Nat.sub_zero, Nat.add_sub_cancel, Nat.div_one]
    refine wpAny_forIn_list _
      (fun rest q s' => s' = s ∧ q = (none, ()) ∧ ∃ i, rest = List.range' i (es.size - i) ∧ i ≤ es.size ∧ HitsH A s xb (xa.drop i) r)
      _ ?_ ?_ _ _ ⟨rfl, rfl, 0, by simp, Nat.zero_le _, hits'⟩
    · rintro x rest q s' ⟨rfl, rfl, i, hr, hi, hpre⟩
      have hlt : i < es.size := by
        rcases Nat.lt_or_ge i es.size with h | h
        · exact h
        · rw [Nat.sub_eq_zero_of_le h] at hr; simp at hr
      obtain ⟨rfl, hrest⟩ : x = i ∧ rest = List.range' (i + 1) (es.size - (i + 1)) := by
        have e : es.size - i = (es.size - (i + 1)) + 1 := by omega
        rw [e, List.range'_succ] at hr
        injection hr with h1 h2
        exact ⟨h1, h2⟩
      refine wpAny_bind (wpAny_dictEntries hoa hda ?_)
      have hlt' : x < xa.length := by rw [hla]; exact hlt
      obtain ⟨k, p, v, hkv⟩ : ∃ k p v, xa[x] = (k, p, v) := ⟨_, _, _, rfl⟩
      have hdrop : xa.drop x = (k, p, v) :: xa.drop (x + 1) := by rw [← hkv]; exact List.drop_eq_getElem_cons hlt'
      have hent : es[x]? = some (entryOfKey knd (k, p, v)) := by rw [entry_at hea x, List.getElem?_eq_getElem hlt', hkv]; rfl
      have hkey : knd.is s'.heap k p := hia (k, p, v) (by rw [← hkv]; exact List.getElem_mem hlt')
      rw [hdrop] at hpre
      rw [hent]
      show wpAny _ _ (holding [(entryOfKey knd (k, p, v)).key, (entryOfKey knd (k, p, v)).val] _ >>= _) _ _ _
      refine wpAny_bind (wpAny_holding (wpAny_bind ?_))
      show wpAny _ _ (dictFind b (.ref p) (knd.hash k)) _ _ _
      refine wpAny_dictFind_heap hu hkey hob hdb heb hib hnb (fun hno => ?_) (fun j pq hj => ?_)
      · have hn : atKey xb k = none := atKey_none_of_get hno
        rcases hpre.inv with ⟨_, er⟩ | ⟨_, y, _, _, hy, _⟩
        · rw [er] at h'
          refine wpAny_pure ?_
          show wpAny _ _ (if (!false) = true then _ else _) _ _ _
          rw [if_pos (by decide)]
          exact wpAny_pure (wpAny_pure h')
        · rw [hn] at hy; exact nomatch hy
      · obtain ⟨q2, y2⟩ := pq
        have hv' : atKey xb k = some (q2, y2) := atKey_of_get hnb hj
        refine wpAny_bind (wpAny_dictEntries hob hdb ?_)
        rw [show es'[j]? = some (entryOfKey knd (k, q2, y2)) by rw [entry_at heb j, hj]; rfl]
        rcases hpre.inv with ⟨hn, _⟩ | ⟨q, y, e, b', hy, he, hrr, er⟩
        · rw [hv'] at hn; exact nomatch hn
        · have ey : y2 = y := congrArg Prod.snd (Option.some.inj (hv'.symm.trans hy))
          rw [← ey] at he
          refine wpAny_holding (he prog w _ _ ?_)
          cases e with
          | false =>
            rw [er, Bool.false_and] at h'
            show wpAny _ _ (if (!false) = true then _ else _) _ _ _
            rw [if_pos (by decide)]
            exact wpAny_pure (wpAny_pure h')
          | true =>
            rw [Bool.true_and] at er
            rw [← er] at hrr
            show wpAny _ _ (if (!true) = true then _ else _) _ _ _
            rw [if_neg (by decide)]
            refine wpAny_bind (wpAny_dictEpoch hoa hda ?_)
            rw [if_neg (by simp)]
            exact wpAny_pure ⟨rfl, rfl, x + 1, hrest, hlt, hrr⟩
    · rintro q s' ⟨rfl, rfl, i, hr, hi, hpre⟩
      have hin : i = es.size := by
        rcases Nat.lt_or_ge i es.size with h | h
        · have e : es.size - i = (es.size - (i + 1)) + 1 := by omega
          rw [e, List.range'_succ] at hr; exact nomatch hr
        · exact Nat.le_antisymm hi h
      refine wpAny_pure ?_
      rw [hin, ← hla, List.drop_length] at hpre
      cases hpre
      exact h'
theorem keqH_eq {a b : Addr} {xa xb : List (K × Addr × Value)} {r : Bool} {Q : Value → Shared → Prop} (hr : knd.room A.in1) (ha : (a == sysModules) = false) (hb : (b == sysModules) = false)
    (da : s.heap.DictOfH knd a xa) (db : s.heap.DictOfH knd b xb) (hu : A.units < cLine) (hits : xa.length = xb.length → HitsH A.in1 s xb xa r) (h : Q (.bool (xa.length == xb.length && r)) s) :
    wpAny (model prog w) A (compareOp .Eq (.ref a) (.ref b)) Q E s := by
  refine wpAny_richCompare_same_room (op := .Eq) da.typeIs db.typeIs PySem.F.slot_dict_eq (wpAny_call_entry PySem.F.slot_dict_eq da.typeIs PySem.F.entry_dict_eq ?_ (PySem.F.args_dict_eq_2 _ _)) hu
  show wpAny _ _ (Builtin.Dict.dictSlotArgs "__eq__" ⟨[.ref a, .ref b], []⟩ >>= _) _ _ s
  refine wpAny_bind ?_
  unfold Builtin.Dict.dictSlotArgs
  refine wpAny_bind (wpAny_notOrdered_dict da.typeIs ?_)
  show wpAny _ _ (pure (Value.ref a, Value.ref b)) _ _ s
  refine wpAny_pure ?_
  refine wpAny_bind (wpAny_isInstance (T := "dict") db.typeIs PySem.F.sub_dict_dict ?_)
  simp only [Bool.not_true, Bool.false_eq_true, if_false]
  refine wpAny_bind (wpAny_pure (wpAny_bind (wpAny_pure ?_)))
  refine wpAny_bind (samePairsH hr ha hb da db hits ?_)
  refine wpAny_pure ⟨_, rfl, ?_, ?_⟩
  · exact fun x => nomatch x
  · simpa using h
theorem keqH_ne {a b : Addr} {xa xb : List (K × Addr × Value)} {r : Bool} {Q : Value → Shared → Prop} (hr : knd.room A.in1) (ha : (a == sysModules) = false) (hb : (b == sysModules) = false)
    (da : s.heap.DictOfH knd a xa) (db : s.heap.DictOfH knd b xb) (hu : A.units < cLine) (hits : xa.length = xb.length → HitsH A.in1 s xb xa r) (h : Q (.bool (!(xa.length == xb.length && r))) s) :
    wpAny (model prog w) A (compareOp .NotEq (.ref a) (.ref b)) Q E s := by
  refine wpAny_richCompare_same_room (op := .NotEq) da.typeIs db.typeIs PySem.F.slot_dict_ne (wpAny_call_entry PySem.F.slot_dict_ne da.typeIs PySem.F.entry_dict_ne ?_ (PySem.F.args_dict_ne_2 _ _)) hu
  show wpAny _ _ (Builtin.Dict.dictSlotArgs "__ne__" ⟨[.ref a, .ref b], []⟩ >>= _) _ _ s
  refine wpAny_bind ?_
  unfold Builtin.Dict.dictSlotArgs
  refine wpAny_bind (wpAny_notOrdered_dict da.typeIs ?_)
  show wpAny _ _ (pure (Value.ref a, Value.ref b)) _ _ s
  refine wpAny_pure ?_
  refine wpAny_bind (wpAny_isInstance (T := "dict") db.typeIs PySem.F.sub_dict_dict ?_)
  simp only [Bool.not_true, Bool.false_eq_true, if_false]
  refine wpAny_bind (wpAny_pure (wpAny_bind (wpAny_pure ?_)))
  refine wpAny_bind (samePairsH hr ha hb da db hits ?_)
  refine wpAny_pure ⟨_, rfl, ?_, ?_⟩
  · exact fun x => nomatch x
  · simpa using h
end
end Dt

end
section
set_option maxRecDepth 100000
set_option autoImplicit false
namespace Dt
open PySem PySem.Spec PyProof.Rows L2
section
variable {X : Cx} {pins : List (Addr × Obj)} {σ : Sl} {H : Hp} {s : Shared}
def vals (kvs : List (DK × D)) : List D := kvs.map (·.2)
theorem lookup_look (k : DK) : ∀ kvs : List (DK × D), kvs.lookup k = lookD kvs k
  | [] => rfl
  | (j, d) :: r => by
    rw [List.lookup_cons, lookD]
    by_cases e : j = k
    · subst e; simp
    · have h1 : (k == j) = false := by simpa using fun z => e z.symm
      rw [h1, if_neg e]
      exact lookup_look k r
theorem mem_look {k : DK} {e : D} : ∀ {l : List (DK × D)}, lookD l k = some e → e ∈ vals l
  | [], h => by cases h
  | p :: l, h => by
    rw [lookD] at h
    unfold vals
    rw [List.map_cons, List.mem_cons]
    split at h
    · cases h; exact .inl rfl
    · exact .inr (mem_look h)
theorem noDics_at {e : D} : ∀ {l : List D}, noDics l = true → e ∈ l → noDic e = true
  | [], _, h => by cases h
  | p :: l, hn, h => by
    have hn2 : noDic p = true ∧ noDics l = true := by simpa [noDics] using hn
    rcases List.mem_cons.mp h with rfl | h
    · exact hn2.1
    · exact noDics_at hn2.2 h
theorem hitsK (I : Inv X pins σ H s) {A : Around} : ∀ (kvs : List (DK × D)) (kvs2 : List (DK × D)) (es es2 : List (Key × V)) (va vb : List (Key × Value)), AtK X.K H kvs es → AtK X.K H kvs2 es2 → KV es va → KV es2 vb → noDics (vals kvs) = true → noDics (vals kvs2) = true → A.units + deepAll (vals kvs) < cLine →
    PySem.W.KeqHits A s vb va (eqvKV kvs kvs2)
  | [], kvs2, es, es2, va, vb, h, q, ra, rb, hn, hm, hu => by
    rw [h.inv0] at ra
    unfold KV at ra
    cases ra
    rw [eqvKV]
    exact .nil
  | (k, d) :: kvs, kvs2, es, es2, va, vb, h, q, ra, rb, hn, hm, hu => by
    obtain ⟨k', x, r', rfl, rfl, h1, h2⟩ := h.inv
    have hn' : noDic d = true ∧ noDics (vals kvs) = true := by simpa [vals, noDics] using hn
    have hd : deepAll (vals ((ofKey k', d) :: kvs)) = max (deepD d) (deepAll (vals kvs)) := by unfold vals; rw [List.map_cons, deepAll]
    rw [hd] at hu
    unfold KV at ra
    cases ra with
    | @cons p q' ps qs z t =>
      obtain ⟨z1, z2⟩ := z
      obtain ⟨key, v⟩ := q'
      have z1' : k' = key := z1
      subst z1'
      have ih := hitsK I (A := A) kvs kvs2 r' es2 qs vb h2 q t rb hn'.2 hm (by omega)
      have lk := q.look k'
      have rv := rb.val k'
      rw [eqvKV, lookup_look]
      cases c : lookD kvs2 (ofKey k') with
      | none =>
        rw [c] at lk
        have lk : valV es2 k' = none := lk
        rw [lk] at rv
        have : valueAt vb k' = none := by
          cases e : valueAt vb k' with
          | none => rfl
          | some y => rw [e] at rv; exact rv.elim
        show PySem.W.KeqHits A s vb ((k', v) :: qs) (false && _)
        rw [Bool.false_and]
        exact .miss this
      | some e =>
        rw [c] at lk
        obtain ⟨y, ey, hy⟩ := lk
        rw [ey] at rv
        obtain ⟨u, hu2, ru⟩ := rv.some_of
        refine .hit hu2 ?_ ih
        have he : noDic e = true := noDics_at hm (mem_look c)
        exact eqAtD I d e A x y v u h1.ct hy.ct z2 ru hn'.1 he (by omega)
theorem hitsT (I : Inv X pins σ H s) {A : Around} : ∀ (kvs : List (DK × D)) (kvs2 : List (DK × D)) (es es2 : List (List Key × V)) (va vb : List (List Key × Addr × Value)), AtT X.K H kvs es → AtT X.K H kvs2 es2 → KT H es va → KT H es2 vb → noDics (vals kvs) = true → noDics (vals kvs2) = true → A.units + deepAll (vals kvs) < cLine →
    HitsH A s vb va (eqvKV kvs kvs2)
  | [], kvs2, es, es2, va, vb, h, q, ra, rb, hn, hm, hu => by
    rw [h.inv0] at ra
    cases ra
    rw [eqvKV]
    exact .nil
  | (k, d) :: kvs, kvs2, es, es2, va, vb, h, q, ra, rb, hn, hm, hu => by
    obtain ⟨k', x, r', rfl, rfl, h1, h2⟩ := h.inv
    have hn' : noDic d = true ∧ noDics (vals kvs) = true := by simpa [vals, noDics] using hn
    have hd : deepAll (vals ((ofKeys k', d) :: kvs)) = max (deepD d) (deepAll (vals kvs)) := by unfold vals; rw [List.map_cons, deepAll]
    rw [hd] at hu
    cases ra with
    | @cons p q' ps qs z t =>
      obtain ⟨z1, z0, z2⟩ := z
      obtain ⟨key, pa, v⟩ := q'
      have z1' : k' = key := z1
      subst z1'
      have ih := hitsT I (A := A) kvs kvs2 r' es2 qs vb h2 q t rb hn'.2 hm (by omega)
      have lk := q.look k'
      have rv := rb.val k'
      rw [eqvKV, lookup_look]
      cases c : lookD kvs2 (ofKeys k') with
      | none =>
        rw [c] at lk
        have lk : valV es2 k' = none := lk
        rw [lk] at rv
        have : atKey vb k' = none := by
          cases e : atKey vb k' with
          | none => rfl
          | some y => rw [e] at rv; exact rv.elim
        show HitsH A s vb ((k', pa, v) :: qs) (false && _)
        rw [Bool.false_and]
        exact .miss this
      | some e =>
        rw [c] at lk
        obtain ⟨y, ey, hy⟩ := lk
        rw [ey] at rv
        obtain ⟨u, hu2, ru⟩ := rv.some_of
        obtain ⟨pq, hpq, epq⟩ := Option.map_eq_some_iff.mp hu2
        obtain ⟨q2, y2⟩ := pq
        cases epq
        exact .hit hpq (eqAtD I d e A x y v y2 h1.ct hy.ct z2 ru hn'.1 (noDics_at hm (mem_look c)) (by omega)) ih
end
def dicOk (a b : List (DK × D)) : Bool := noDics (vals a) && (noDics (vals b) && decide (deepAll (vals a) ≤ 60))
/-- two dicts, or two without dicts -/
def eqE (d e : D) : Option D := match d, e with
  | .dic t a, .dic u b => if (t == u && dicOk a b) = true then some (.bl (eqvD (.dic t a) (.dic u b))) else none
  | d, e => eqD d e
def neE (d e : D) : Option D := match d, e with
  | .dic t a, .dic u b => if (t == u && dicOk a b) = true then some (.bl (!eqvD (.dic t a) (.dic u b))) else none
  | d, e => neD d e
theorem eqv_dic (t u : Bool) (a b : List (DK × D)) : eqvD (.dic t a) (.dic u b) = (a.length == b.length && eqvKV a b) := by rw [eqvD]
theorem op_eqE {X : Cx} (hu : X.A.units + 64 < cLine) : OpR X (compareOp .Eq) (rV2 X.K eqE) := by
  intro pins s σ H x y v u Q I rx ry h
  obtain ⟨d, e, r, hd, he, hg, hb, q⟩ := h
  unfold eqE at hg
  split at hg
  · rename_i t a u' b
    split at hg
    · rename_i c
      cases hg
      simp only [dicOk, Bool.and_eq_true, beq_iff_eq, decide_eq_true_eq] at c
      obtain ⟨rfl, c1, c2, c3⟩ := c
      rw [eqv_dic] at q
      cases t with
      | false =>
        obtain ⟨p1, es, rfl, h1, h2⟩ := hd.dicK
        obtain ⟨p2, es2, rfl, h3, h4⟩ := he.dicK
        obtain rfl : v = Value.ref p1 := rx
        obtain rfl : u = Value.ref p2 := ry
        obtain ⟨_, ya, va, ra, da⟩ := (show ObjOk X.prog X.w H s.heap p1 (.dK es) from h1.ok I.hok)
        obtain ⟨_, yb, vb, rb, db⟩ := (show ObjOk X.prog X.w H s.heap p2 (.dK es2) from h3.ok I.hok)
        have l1 : va.length = a.length := by rw [← ra.length, h2.len]
        have l2 : vb.length = b.length := by rw [← rb.length, h4.len]
        exact PySem.W.keq_eq (knd := mixKind X.prog X.w) ya yb da db (by omega) (fun _ => hitsK I a b es es2 va vb h2 h4 ra rb c1 c2 (by show X.A.units + 1 + _ < _; omega)) (by rw [l1, l2]; exact ⟨.bl _, H, I, rfl, q _ _ .self rfl⟩)
      | true =>
        obtain ⟨p1, es, rfl, h1, h2⟩ := hd.dicT
        obtain ⟨p2, es2, rfl, h3, h4⟩ := he.dicT
        obtain rfl : v = Value.ref p1 := rx
        obtain rfl : u = Value.ref p2 := ry
        obtain ⟨_, ya, va, ra, da⟩ := dt_rd I.hok h1
        obtain ⟨_, yb, vb, rb, db⟩ := dt_rd I.hok h3
        have l1 : va.length = a.length := by rw [← Paired.length ra, h2.len]
        have l2 : vb.length = b.length := by rw [← Paired.length rb, h4.len]
        exact keqH_eq (knd := tupleKind (mixKind X.prog X.w)) (show X.A.units + 1 < cLine by omega) ya yb da db (by omega) (fun _ => hitsT I a b es es2 va vb h2 h4 ra rb c1 c2 (by show X.A.units + 1 + _ < _; omega)) (by rw [l1, l2]; exact ⟨.bl _, H, I, rfl, q _ _ .self rfl⟩)
    · cases hg
  · exact op_eqDD hu pins s σ H x y v u Q I rx ry ⟨d, e, r, hd, he, hg, hb, q⟩
theorem op_neE {X : Cx} (hu : X.A.units + 64 < cLine) : OpR X (compareOp .NotEq) (rV2 X.K neE) := by
  intro pins s σ H x y v u Q I rx ry h
  obtain ⟨d, e, r, hd, he, hg, hb, q⟩ := h
  unfold neE at hg
  split at hg
  · rename_i t a u' b
    split at hg
    · rename_i c
      cases hg
      simp only [dicOk, Bool.and_eq_true, beq_iff_eq, decide_eq_true_eq] at c
      obtain ⟨rfl, c1, c2, c3⟩ := c
      rw [eqv_dic] at q
      cases t with
      | false =>
        obtain ⟨p1, es, rfl, h1, h2⟩ := hd.dicK
        obtain ⟨p2, es2, rfl, h3, h4⟩ := he.dicK
        obtain rfl : v = Value.ref p1 := rx
        obtain rfl : u = Value.ref p2 := ry
        obtain ⟨_, ya, va, ra, da⟩ := (show ObjOk X.prog X.w H s.heap p1 (.dK es) from h1.ok I.hok)
        obtain ⟨_, yb, vb, rb, db⟩ := (show ObjOk X.prog X.w H s.heap p2 (.dK es2) from h3.ok I.hok)
        have l1 : va.length = a.length := by rw [← ra.length, h2.len]
        have l2 : vb.length = b.length := by rw [← rb.length, h4.len]
        exact PySem.W.keq_ne (knd := mixKind X.prog X.w) ya yb da db (by omega) (fun _ => hitsK I a b es es2 va vb h2 h4 ra rb c1 c2 (by show X.A.units + 1 + _ < _; omega)) (by rw [l1, l2]; exact ⟨.bl _, H, I, rfl, q _ _ .self rfl⟩)
      | true =>
        obtain ⟨p1, es, rfl, h1, h2⟩ := hd.dicT
        obtain ⟨p2, es2, rfl, h3, h4⟩ := he.dicT
        obtain rfl : v = Value.ref p1 := rx
        obtain rfl : u = Value.ref p2 := ry
        obtain ⟨_, ya, va, ra, da⟩ := dt_rd I.hok h1
        obtain ⟨_, yb, vb, rb, db⟩ := dt_rd I.hok h3
        have l1 : va.length = a.length := by rw [← Paired.length ra, h2.len]
        have l2 : vb.length = b.length := by rw [← Paired.length rb, h4.len]
        exact keqH_ne (knd := tupleKind (mixKind X.prog X.w)) (show X.A.units + 1 < cLine by omega) ya yb da db (by omega) (fun _ => hitsT I a b es es2 va vb h2 h4 ra rb c1 c2 (by show X.A.units + 1 + _ < _; omega)) (by rw [l1, l2]; exact ⟨.bl _, H, I, rfl, q _ _ .self rfl⟩)
    · cases hg
  · exact op_neDD hu pins s σ H x y v u Q I rx ry ⟨d, e, r, hd, he, hg, hb, q⟩
theorem eqvKV_self (kvs : List (DK × D)) (hn : noDics (vals kvs) = true) : ∀ l : List (DK × D), (∀ p ∈ l, lookD kvs p.1 = some p.2) → noDics (vals l) = true → eqvKV l kvs = true
  | [], _, _ => by rw [eqvKV]
  | (k, d) :: l, h, hm => by
    have hn' : noDic d = true ∧ noDics (vals l) = true := by simpa [vals, noDics] using hm
    rw [eqvKV, lookup_look, h (k, d) List.mem_cons_self, eqvKV_self kvs hn l (fun p hp => h p (List.mem_cons_of_mem _ hp)) hn'.2]
    simp only [Bool.and_true]
    exact eqvD_refl _ hn'.1
theorem look_mem : ∀ {kvs : List (DK × D)}, (kvs.map (·.1)).Nodup → ∀ p ∈ kvs, lookD kvs p.1 = some p.2
  | [], _, _, h => by cases h
  | (k, d) :: kvs, nd, p, h => by
    rw [List.map_cons, List.nodup_cons] at nd
    rw [lookD]
    rcases List.mem_cons.mp h with rfl | h
    · rw [if_pos rfl]
    · rw [if_neg (fun e : k = p.1 => nd.1 (by rw [e]; exact List.mem_map.mpr ⟨p, h, rfl⟩))]
      exact look_mem nd.2 p h
theorem neE_self {t : Bool} {kvs : List (DK × D)} (nd : (kvs.map (·.1)).Nodup) (hn : noDics (vals kvs) = true) (hd : deepAll (vals kvs) ≤ 60) : neE (.dic t kvs) (.dic t kvs) = some (.bl false) := by
  show (if (t == t && dicOk kvs kvs) = true then some (D.bl (!eqvD (.dic t kvs) (.dic t kvs))) else none) = _
  rw [if_pos (by simp [dicOk, hn, hd]), eqv_dic, eqvKV_self kvs hn kvs (look_mem nd) hn]
  simp
theorem eqE_self {t : Bool} {kvs : List (DK × D)} (nd : (kvs.map (·.1)).Nodup) (hn : noDics (vals kvs) = true) (hd : deepAll (vals kvs) ≤ 60) : eqE (.dic t kvs) (.dic t kvs) = some (.bl true) := by
  show (if (t == t && dicOk kvs kvs) = true then some (D.bl (eqvD (.dic t kvs) (.dic t kvs))) else none) = _
  rw [if_pos (by simp [dicOk, hn, hd]), eqv_dic, eqvKV_self kvs hn kvs (look_mem nd) hn]
  simp
end Dt

end
section
set_option maxRecDepth 100000
set_option autoImplicit false
/-! list(reversed(x)), x a list. -/
namespace Dt
open PySem PySem.Spec PyProof.Rows L2
section
variable {prog : Program} {w : World} {A : Around} {E : Value → Shared → Prop} {s : Shared}
theorem rev_init {R : Result → Shared → Prop} {it l : Addr} {items : Array Value} (hh : A.handled = none) (hit : s.heap.IsRevIter it l ((items.size : Int) - 1)) (hl : s.heap.IsList l items) (hne : l ≠ it) (hn : items.size ≤ sizeLine) (S : Addr) (hSi : S ≠ it) (hSl : S ≠ l) (hS : s.heap.get? S = some { cls := .type "list", data := .seq #[] })
    (hR : ∀ h' tk acc' c', (∀ b o, b ≠ S → b ≠ it → s.heap.get? b = some o → h'.get? b = some o) → h'.get? S = some { cls := .type "list", dict := none, data := .seq acc' c', slots := #[] } → ItemsOf (fun i v => items[items.size - 1 - i]? = some v) acc' items.size → R (.ok (.ret .none)) { s with heap := h', toks := tk }) :
    wpAny (model prog w) A.in1 (Builtin.«list.__init__» ⟨[.ref S, .ref it], []⟩)
      (fun fin s' => match fin with | .done f => R (.ok f) s' | .again c' => c'.quiet = true ∧ codeAny (model prog w) A c' R s') (fun e s' => R (.error e) s') s := by
  have W := (Walks.listRev (prog := prog) (w := w) (A := A.in1) hh it l hne items).toS
  have hSf : S ∉ [it, l] := by simp only [List.mem_cons, List.not_mem_nil, or_false, not_or]; exact ⟨hSi, hSl⟩
  show wpAny _ _ (do let old ← Builtin.List.listItems (.ref S); Builtin.List.listUpdate (.ref S) (fun _ => #[]); letGo old.toList.reverse; Builtin.List.listExtendWith (.ref S) (.ref it) .none) _ _ s
  refine wpAny_bind ?_
  unfold Builtin.List.listItems
  refine wpAny_bind (wpAny_seqItems hS rfl (wpAny_pure ?_))
  show wpAny _ _ (updateSeq S (fun _ => #[]) >>= fun _ => letGo (#[] : Array Value).toList.reverse >>= fun _ => Builtin.List.listExtendWith (.ref S) (.ref it) .none) _ _ s
  refine wpAny_bind (wpAny_updateSeq hS rfl ?_)
  have hS₂ := Heap.get?_update_self (Obj.mapSeq (fun _ => (#[] : Array Value))) hS rfl
  have oth : ∀ b o, b ≠ S → s.heap.get? b = some o → (s.heap.update S (Obj.mapSeq (fun _ => (#[] : Array Value)))).get? b = some o :=
    fun b o hb e => (Heap.get?_update_other _ _ (Ne.symm hb)).trans e
  refine wpAny_bind (wpAny_letGo ?_)
  generalize s.heap.update S (Obj.mapSeq (fun _ => (#[] : Array Value))) = h1 at hS₂ oth ⊢
  have hit1 : h1.IsRevIter it l ((items.size : Int) - 1) := hit.at fun o e => oth it o (Ne.symm hSi) e
  have hl1 : h1.IsList l items := hl.at fun o e => oth l o (Ne.symm hSl) e
  have hT : ({ s with heap := h1 } : Shared).TypeIs (.ref it) "list_reverseiterator" := Heap.IsRevIter.typeIs (s := { s with heap := h1 }) hit1
  have h2 : Builtin.List.listSameRef (.ref S) (.ref it) = false := by simp [Builtin.List.listSameRef, hSi]
  unfold Builtin.List.listExtendWith
  refine wpAny_bind (wpAny_typeOf hT ?_)
  rw [if_neg (by rw [h2]; decide)]
  refine wpAny_bind (wpAny_pyIter_revIter (s := { s with heap := h1 }) hit1 ?_)
  refine wpAny_bind (wpAny_holding ?_)
  unfold Builtin.List.listLengthHint
  refine wpAny_bind (wpAny_specialOf hT RT.nolen_lri ?_)
  show wpAny _ A.in1 (specialOf (Value.ref it) (Str.ofString "__length_hint__") >>= _) _ _ _
  refine wpAny_bind (wpAny_specialOf hT RT.hint_lri ?_)
  generalize hid : ("list_reverseiterator.__length_hint__" : String) = id0
  wp_delta
  rw [show splitId id0 = some ("list_reverseiterator", "__length_hint__") from by subst hid; decide +kernel]
  subst hid
  refine wpAny_bind (wpAny_isInstance (b := true) hT (by rw [isSubtype_type]; kernel_rfl) ?_)
  refine wpAny_pure ?_
  rw [if_neg (by decide)]
  have e0 : ((items.size : Nat) : Int) - 1 - ((0 : Nat) : Int) = (items.size : Int) - 1 := by omega
  refine wpAny_pure ⟨plainId_quiet F.plain_extend_loop _, codeAny_extend_loopS W hn _ hSf _ items.size 0 _ _ _ rfl (Nat.zero_le _) ⟨Nat.zero_le _, by rw [e0]; exact hit1, hl1⟩ hS₂ (ItemsOf.nil _) fun s' acc' c' hm hS' hacc => ?_⟩
  rw [Moved.eq_with hm]
  refine hR s'.heap s'.toks acc' c' (fun b o hb hb2 e => hm.heap b o (fun hmem => ?_) (oth b o hb e)) hS' hacc
  rcases List.mem_cons.mp hmem with e' | hmem
  · exact hb e'
  · exact hb2 (List.mem_singleton.mp hmem)
theorem call_list_rev {it l : Addr} {items : Array Value} {Q : Value → Shared → Prop} (hh : A.handled = none) (hit : s.heap.IsRevIter it l ((items.size : Int) - 1)) (hl : s.heap.IsList l items) (hne : l ≠ it) (hn : items.size ≤ sizeLine)
    (hQ : ∀ h' tk acc' c', (∀ b o, b ≠ it → s.heap.get? b = some o → h'.get? b = some o) → h'.get? s.heap.objs.size = some { cls := .type "list", dict := none, data := .seq acc' c', slots := #[] } → ItemsOf (fun i v => items[items.size - 1 - i]? = some v) acc' items.size → Q (.ref s.heap.objs.size) { s with heap := h', toks := tk }) :
    wpAny (model prog w) A (call (.type "list") [.ref it]) Q E s := by
  refine callType_codes (Q₁ := fun obj s₁ => obj = .ref s.heap.objs.size ∧ s₁ = { s with heap := s.heap.push { cls := .type "list", data := .seq #[] } }) PySem.F.called_list (PySem.F.typeCall_list_1 _) PySem.F.entry_list_init
    (code_list_new _ ⟨rfl, rfl⟩) fun obj s₁ h₁ => ?_
  obtain ⟨rfl, rfl⟩ := h₁
  obtain ⟨oi, hoi, _⟩ := id hit
  obtain ⟨ol, hol, _⟩ := id hl
  have hSi : s.heap.objs.size ≠ it := Nat.ne_of_gt (Heap.lt_size hoi)
  have hSl : s.heap.objs.size ≠ l := Nat.ne_of_gt (Heap.lt_size hol)
  have hS : (s.heap.push { cls := .type "list", data := .seq #[] }).get? s.heap.objs.size = some { cls := .type "list", data := .seq #[] } := Heap.get?_push_size _ rfl
  refine ⟨⟨_, hS, rfl⟩, PySem.F.args_list_init_2 _ _, rev_init (A := A.in1) (l := l) (items := items) hh (hit.at fun o e => Heap.get?_push_of_some _ e) (hl.push _) hne hn _ hSi hSl hS (fun h' tk acc' c' hk hS' hacc => ?_)⟩
  exact ⟨rfl, hQ h' tk acc' c' (fun b o hb e => hk b o (Nat.ne_of_lt (Heap.lt_size e)) hb (Heap.get?_push_of_some _ e)) hS' hacc⟩
end
section
variable {X : Cx}
def tListRev (K : PySem.W.Frag) (te : TE) : TE := fun σ H Q => te σ H fun v H1 => ∃ (a : Addr) (xs : List V), v = .ref a ∧ SqL K H1 a xs ∧ ∀ q, H1 q = none → Q (.ref q) (upd H1 q (.lst xs.reverse))
theorem pe_listRev {e : Expr} {te : TE} {p p2 pos pos2 : Pos} (hc : X.calm = true) (hg : Gl X "list") (hm : X.mg "list" = none) (hg2 : Gl X "reversed") (hm2 : X.mg "reversed" = none) (he : PE X e te)
    (hs : starEach [e] X.env = (false, eval e X.env) :: starEach [] X.env := by rfl)
    (hs2 : starEach [.Call (.Name "reversed" p2) [e] [] pos2] X.env = (false, eval (.Call (.Name "reversed" p2) [e] [] pos2) X.env) :: starEach [] X.env := by rfl) :
    PE X (.Call (.Name "list" p) [.Call (.Name "reversed" p2) [e] [] pos2] [] pos) (tListRev X.K te) := by
  refine ⟨fun pins s σ H Q I h => ?_⟩
  refine Call_ (ld_blt I hg hm boot_list (PyProof.Rows.callWith_type1 (args_cons (Call_ (ld_blt I hg2 hm2 PyProof.Rows.boot_reversed (PyProof.Rows.callWith_type1 (args_cons (thn (he.run pins s σ H _ I h) fun u s1 ⟨v, H1, I1, r1, q1⟩ => args_nil ?_) hs) hs rfl))) hs2) hs2 rfl))
  obtain ⟨a, xs, ev, hq, q⟩ := q1
  subst ev
  obtain rfl : u = Value.ref a := r1
  obtain ⟨its, rv, p', hz⟩ := I1.list hq
  refine call_reversed_list p'.isList (args_nil ?_)
  have k0 : ∀ b o, s1.heap.get? b = some o → (s1.heap.push (revObj a ((its.toArray.size : Int) - 1))).get? b = some o := fun b o e => Heap.get?_push_of_some _ e
  have I2 : Inv X pins σ H1 { s1 with heap := s1.heap.push (revObj a ((its.toArray.size : Int) - 1)) } := I1.kept (t' := s1.toks) k0
  obtain ⟨f0, f1, f2, f3, f4, f5⟩ := I1.fpOk (H' := H1) (b := s1.heap.objs.size) (Nat.le_refl _) (I1.hok.fresh (Nat.le_refl _))
  have hl := p'.isList
  obtain ⟨ol, hol, _⟩ := id hl
  have hne : a ≠ s1.heap.objs.size := Nat.ne_of_lt (Heap.lt_size hol)
  have hn : its.toArray.size ≤ sizeLine := by rw [List.size_toArray, ← rv.length]; exact hz
  refine call_list_rev (s := { s1 with heap := s1.heap.push (revObj a ((its.toArray.size : Int) - 1)) }) (I1.ok.hd hc) ⟨_, Heap.get?_push_size _ rfl, rfl, rfl⟩ (hl.push _) hne hn fun h' tk acc c' hk hD hi => ?_
  have kk : ∀ b o, b ∉ [s1.heap.objs.size] → s1.heap.get? b = some o → h'.get? b = some o := fun b o hb e => hk b o (fun z => hb (by simp [z])) (k0 b o e)
  have hT : s1.heap.objs.size ≤ (s1.heap.push (revObj a ((its.toArray.size : Int) - 1))).objs.size := by
    unfold Heap.push
    simp
  have N : ObjOk X.prog X.w (upd H1 (s1.heap.push (revObj a ((its.toArray.size : Int) - 1))).objs.size (.lst xs.reverse)) h' (s1.heap.push (revObj a ((its.toArray.size : Int) - 1))).objs.size (.lst xs.reverse) := by
    refine ⟨by rw [List.length_reverse]; exact hz, acc.toList, c', RT.vals_rev rv hi, ?_⟩
    rw [Array.toArray_toList]
    exact hD
  have I3 := I1.turnedNew (t' := tk) (ch := [s1.heap.objs.size]) kk (fun b hb => by
    have : b = s1.heap.objs.size := by simpa using hb
    subst this
    exact I1.fpOk (Nat.le_refl _) (I1.hok.fresh (Nat.le_refl _))) hT N
  exact ⟨.ref (s1.heap.push (revObj a ((its.toArray.size : Int) - 1))).objs.size, _, I3, rfl, q _ (I1.hok.fresh hT)⟩
variable {ec : EC} {E : L2.WX} {e : Expr} {p p2 pos pos2 : Pos}
def lrevD : D → Option RV
  | .lst ds => some (.own (.lst ds.reverse))
  | _ => none
def lrevM (m : M D) : M RV := bnd m fun d => lift (lrevD d)
theorem ap_lrevM (m : M D) (s : DSt) : lrevM m s = bnd m (fun d => lift (lrevD d)) s := rfl
theorem lrev_lst (ds : List D) : lrevD (.lst ds) = some (.own (.lst ds.reverse)) := rfl
theorem dr_listRev {m : M D} (hc : X.calm = true) (hg : Gl X "list") (hm : X.mg "list" = none) (hg2 : Gl X "reversed") (hm2 : X.mg "reversed" = none) (h : DV X ec E e m)
    (hs : starEach [e] X.env = (false, eval e X.env) :: starEach [] X.env)
    (hs2 : starEach [.Call (.Name "reversed" p2) [e] [] pos2] X.env = (false, eval (.Call (.Name "reversed" p2) [e] [] pos2) X.env) :: starEach [] X.env) :
    DR X ec E (.Call (.Name "list" p) [.Call (.Name "reversed" p2) [e] [] pos2] [] pos) (lrevM m) := by
  obtain ⟨t, h1, h2⟩ := h.run
  refine DR.mk0 (pe_listRev hc hg hm hg2 hm2 h1 hs hs2) fun σ H s Q hR hm => ?_
  refine h2 σ H s _ hR (hm.bnd.imp fun d s1 H1 _ e1 R1 S1 hk v hv => ?_)
  obtain ⟨r, hr, hk⟩ := hk.lift
  unfold lrevD at hr
  split at hr
  · cases hr
    unfold At at hv
    obtain ⟨a, xs, rfl, h3, h4⟩ := hv
    exact ⟨a, xs, rfl, h3.sql, fun q hq => hk _ (.new hq) (R1.toRel0.evo0 (.new hq)) _ ((new_own_lst hq h4.rev).back fun p hp => e1.free p hp)⟩
  · cases hr
end
end Dt

end
section
set_option maxRecDepth 100000
set_option autoImplicit false
/-! is, is not: None, or two truths. -/
namespace Dt
open PySem PySem.Spec PyProof.Rows L2
def isE (d e : D) : Option D := match e with
  | .bl b => (match d with
    | .bl a => some (.bl (a == b))
    | _ => none)
  | e => isD d e
def isnotE (d e : D) : Option D := match e with
  | .bl b => (match d with
    | .bl a => some (.bl (!(a == b)))
    | _ => none)
  | e => isnotD d e
theorem isE_bl (a b : Bool) : isE (.bl a) (.bl b) = some (.bl (a == b)) := rfl
theorem isnotE_bl (a b : Bool) : isnotE (.bl a) (.bl b) = some (.bl (!(a == b))) := rfl
theorem op_isE {X : Cx} : OpR X (compareOp .Is) (rV2 X.K isE) := by
  intro pins s σ H x y v u Q I rx ry h
  obtain ⟨d, e, r, hd, he, hg, hb, q⟩ := h
  unfold isE at hg
  split at hg
  · rename_i b
    split at hg
    · rename_i a
      cases hg
      refine op_is_bl pins s σ H x y v u Q I rx ry ⟨a, b, hd.bl, he.bl, ?_⟩
      have := q (.bl (a == b)) _ .self rfl
      have e2 : decide (a = b) = (a == b) := by cases a <;> cases b <;> rfl
      rw [e2]
      exact this
    · cases hg
  · exact op_isD pins s σ H x y v u Q I rx ry ⟨d, _, r, hd, he, hg, hb, q⟩
theorem op_isnotE {X : Cx} : OpR X (compareOp .IsNot) (rV2 X.K isnotE) := by
  intro pins s σ H x y v u Q I rx ry h
  obtain ⟨d, e, r, hd, he, hg, hb, q⟩ := h
  unfold isnotE at hg
  split at hg
  · rename_i b
    split at hg
    · rename_i a
      cases hg
      refine op_isnot_bl pins s σ H x y v u Q I rx ry ⟨a, b, hd.bl, he.bl, ?_⟩
      have := q (.bl (!(a == b))) _ .self rfl
      have e2 : (!decide (a = b)) = (!(a == b)) := by cases a <;> cases b <;> rfl
      rw [e2]
      exact this
    · cases hg
  · exact op_isnotD pins s σ H x y v u Q I rx ry ⟨d, _, r, hd, he, hg, hb, q⟩
end Dt

end
section
set_option maxRecDepth 100000
set_option autoImplicit false
/-! x[::-1], x a tuple or a list. -/
namespace Dt
open PySem PySem.Spec PyProof.Rows L2
section
variable {prog : Program} {w : World} {A : Around} {E : Value → Shared → Prop} {s : Shared}
theorem places_rev (n : Nat) : Builtin.Slice.slicePlaces ((n : Int) - 1) (-1) (-1) = n := by
  unfold Builtin.Slice.slicePlaces
  rw [if_neg (by omega)]
  by_cases h : (n : Int) - 1 > -1
  · rw [if_pos h]
    have e : ((n : Int) - 1 - -1 - 1) / (- -1) = (n : Int) - 1 := by
      rw [show (- -1 : Int) = 1 by decide, Int.ediv_one]
      omega
    rw [e]
    omega
  · rw [if_neg h]
    omega
theorem adjust_rev (n : Nat) : Builtin.Slice.sliceAdjust none none (-1) (n : Int) = ((n : Int) - 1, -1) := by
  unfold Builtin.Slice.sliceAdjust
  have h1 : (-1 : Int) < 0 := by omega
  simp only [h1, if_true]
theorem sliceApplied_rev {sl : Addr} {vl vu vs : Value} {n : Nat} {Q : Int × Int × Nat → Shared → Prop} (hs : s.heap.IsSliceOf sl vl vu vs) (pl : IsPart vl none) (pu : IsPart vu none) (ps : IsPart vs (some (-1)))
    (h : Q ((n : Int) - 1, -1, n) s) : wpAny (model prog w) A (Builtin.Slice.sliceApplied (.ref sl) (pure (n : Int))) Q E s := by
  obtain ⟨os, hos, hcs, hds⟩ := id hs
  unfold Builtin.Slice.sliceApplied Builtin.Slice.sliceFields
  refine wpAny_bind (wpAny_bind (wpAny_field hos hds (x := vl) rfl (wpAny_bind (wpAny_field hos hds (x := vu) rfl (wpAny_bind (wpAny_field hos hds (x := vs) rfl (wpAny_pure ?_)))))))
  refine wpAny_bind (HT.slicePart_ ps ?_)
  show wpAny _ _ (if ((-1 : Int) == 0) = true then _ else _) _ _ s
  rw [if_neg (by decide)]
  refine wpAny_bind (HT.slicePart_ pl (wpAny_bind (HT.slicePart_ pu (wpAny_bind (wpAny_pure ?_)))))
  show wpAny _ _ (match Builtin.Slice.sliceAdjust none none (-1) (n : Int) with | (lo, hi) => pure (lo, (-1 : Int), Builtin.Slice.slicePlaces lo hi (-1))) _ _ s
  rw [adjust_rev n]
  show wpAny _ _ (pure ((n : Int) - 1, (-1 : Int), Builtin.Slice.slicePlaces ((n : Int) - 1) (-1) (-1))) _ _ s
  rw [places_rev]
  exact wpAny_pure h
theorem fm_congr {α β : Type} {f g : α → Option β} : ∀ {l : List α}, (∀ x ∈ l, f x = g x) → l.filterMap f = l.filterMap g
  | [], _ => rfl
  | a :: l, h => by
    rw [List.filterMap_cons, List.filterMap_cons, h a List.mem_cons_self, fm_congr fun x hx => h x (List.mem_cons_of_mem _ hx)]
theorem pick_rev (xs : Array Value) : ((List.range xs.size).filterMap fun (m : Nat) => xs[(((xs.size : Int) - 1) + (m : Int) * (-1)).toNat]?).toArray = xs.toList.reverse.toArray := by
  have e : (List.range xs.size).filterMap (fun (m : Nat) => xs[(((xs.size : Int) - 1) + (m : Int) * (-1)).toNat]?) = ((List.range xs.size).map (fun k => xs.size - 1 - k)).filterMap (xs[·]?) := by
    rw [List.filterMap_map]
    apply fm_congr
    intro m hm
    have := List.mem_range.mp hm
    show xs[(((xs.size : Int) - 1) + (m : Int) * (-1)).toNat]? = xs[xs.size - 1 - m]?
    congr 1
    omega
  rw [e, PySem.W.krv_range, List.filterMap_reverse, PySem.W.krv_all]
theorem getItem_tuple_rev {t sl : Addr} {items : Array Value} {vl vu vs : Value} {Q : Value → Shared → Prop} (ht : IsTup s.heap t items) (hs : s.heap.IsSliceOf sl vl vu vs) (pl : IsPart vl none) (pu : IsPart vu none) (ps : IsPart vs (some (-1)))
    (h : Q (.ref s.heap.objs.size) { s with heap := s.heap.push { cls := .type "tuple", data := .seq items.toList.reverse.toArray } })
    (hsz : items.size ≤ sizeLine) : wpAny (model prog w) A (getItem (.ref t) (.ref sl)) Q E s := by
  have htake : sizeOk (.seq items.toList.reverse.toArray) := by
    show items.toList.reverse.toArray.size ≤ sizeLine
    rw [List.size_toArray, List.length_reverse, Array.length_toList]
    omega
  obtain ⟨os, hos, hcs, hds⟩ := id hs
  have hTs : s.TypeIs (.ref sl) "slice" := ⟨os, hos, hcs⟩
  unfold getItem
  try with_reducible refine wpAny_holding ?_
  first | refine wpAny_bind (wpAny_pure ?_) | skip
  refine wpAny_bind (wpAny_sequenceKey ht.typeIs (by decide) ?_)
  refine wpAny_bind (wpAny_callSpecial?_slot (name := Str.ofString "__getitem__") ht.typeIs PyProof.Rows.slot_tuple_getitem
    (wpAny_call_entry PyProof.Rows.slot_tuple_getitem ht.typeIs entry_tuple_getitem ?_ (args_tuple_getitem _ _)))
  show wpAny _ _ (Builtin.Tuple.tupleItemsOf (.ref t) >>= _) _ _ s
  refine wpAny_bind (tupleItemsOf_ ht ?_)
  refine wpAny_bind (wpAny_typeOf hTs ?_)
  rw [if_pos (by decide)]
  refine wpAny_bind (sliceApplied_rev hs pl pu ps ?_)
  have hno : ¬ ((((items.size : Int) - 1) == 0 && (-1 : Int) == 1 && items.size == items.size) = true) := by
    rw [show ((-1 : Int) == 1) = false from rfl]
    simp
  show wpAny _ _ (if (((items.size : Int) - 1) == 0 && (-1 : Int) == 1 && items.size == items.size) = true then _ else _) _ _ s
  rw [if_neg hno, pick_rev]
  first
    | exact wpAny_bind (m := Builtin.Tuple.tupleExact _) (wpAny_newObj_type (wpAny_pure ⟨_, rfl, wpAny_pure h⟩) htake)
    | exact wpAny_bind (m := Builtin.Tuple.tupleExact _) (wpAny_newObj_type (wpAny_bind (wpAny_pure (wpAny_pure ⟨_, rfl, wpAny_pure h⟩))) htake)
    | exact wpAny_bind (wpAny_bind (m := Builtin.Tuple.tupleExact _) (wpAny_newObj_type (wpAny_pure (wpAny_pure ⟨_, rfl, wpAny_pure h⟩)) htake))
    | exact wpAny_bind (wpAny_bind (m := Builtin.Tuple.tupleExact _) (wpAny_newObj_type (wpAny_pure ⟨_, rfl, wpAny_pure h⟩) htake))
end
section
variable {X : Cx}
def tRevT (K : PySem.W.Frag) (te : TE) : TE := fun σ H Q => te σ H fun x H1 => ∃ a xs, x = .ref a ∧ SqT K H1 a xs ∧ ∀ p, H1 p = none → LaysT Q H1 p xs.reverse
theorem pe_revT {e : Expr} {te : TE} {k : Nat} {p1 p2 p3 pos : Pos} (he : PE X e te) : PE X (.Subscript e (.Slice none none (some (.UnaryOp .USub (.Constant (.int 1) k p1) p2)) p3) pos) (tRevT X.K te) := by
  refine ⟨fun pins s σ H Q I h => ?_⟩
  refine Subscript_ (thn (he.run pins s σ H _ I h) fun v s1 ⟨x, H1, I1, r1, q1⟩ => ?_)
  obtain ⟨a, xs, ex, hx, q⟩ := q1
  subst ex
  cases r1
  have hst : PO X (some (.UnaryOp .USub (.Constant (.int 1) k p1) p2)) (tPart (tUn (rU fun i => .int (-i)) (tC (.int 1)))) := po_some (pe_un un_neg pe_int)
  refine wpAny_Slice (thn (po_none.run pins s1 σ H1 (fun o H2 => o = none ∧ H2 = H1) I1 ⟨rfl, rfl⟩) fun vl s2 ⟨l, H2, I2, pl, el, e2⟩ => ?_)
  subst el e2
  refine thn (po_none.run pins s2 σ H2 (fun o H3 => o = none ∧ H3 = H2) I2 ⟨rfl, rfl⟩) fun vu s3 ⟨u, H3, I3, pu, eu, e3⟩ => ?_
  subst eu e3
  refine thn (hst.run pins s3 σ H3 (fun o H4 => o = some (-1) ∧ H4 = H3) I3 ⟨1, rfl, -1, rfl, rfl, rfl⟩) fun vs s4 ⟨o, H4, I4, ps, eo, e4⟩ => ?_
  subst eo e4
  have I5 : Inv X pins σ H4 { s4 with heap := s4.heap.push { cls := .type "slice", data := .fields #[vl, vu, vs] } } := I4.kept (t' := s4.toks) fun b ob q => Heap.get?_push_of_some _ q
  obtain ⟨its, r, ht, hz⟩ := I5.tuple hx
  have hlen := r.length
  show wpAny (model X.prog X.w) X.A (subscriptTail e (.Slice none none (some (.UnaryOp .USub (.Constant (.int 1) k p1) p2)) p3) (.ref a) (.ref s4.heap.objs.size)) (EP X pins σ Q) X.xe { s4 with heap := s4.heap.push { cls := .type "slice", data := .fields #[vl, vu, vs] } }
  refine tail_any (ops := [.ref a, .ref s4.heap.objs.size]) ht.typeIs PyProof.Rows.slot_tuple_getitem.lookup ?_ (by with_unfolding_all rfl)
  refine getItem_tuple_rev ht (Heap.IsSliceOf.new _ vl vu vs) pl pu ps ?_ (by rw [List.size_toArray]; omega)
  exact lays_inv (s := { s4 with heap := s4.heap.push { cls := .type "slice", data := .fields #[vl, vu, vs] } }) (tk := s4.toks) I5 r.reverse (by rw [List.length_reverse]; omega) (q _ (I5.hok.fresh (Nat.le_refl _)))
end
def revSlD : D → Option RV
  | .tup ds => some (.val (.tup ds.reverse))
  | _ => none
def revSlM (o : Opd) : M RV := bnd o.start fun x => bnd (o.read x) fun d => lift (revSlD d)
section
variable {X : Cx} {ec : EC} {E : L2.WX} {a : Expr}
theorem dr_revT {o : Opd} {k : Nat} {p1 p2 p3 pos : Pos} (ha : DO X ec E a o) : DR X ec E (.Subscript a (.Slice none none (some (.UnaryOp .USub (.Constant (.int 1) k p1) p2)) p3) pos) (revSlM o) := by
  obtain ⟨ta, h1, h2⟩ := ha.run
  refine DR.mk0 (pe_revT h1) fun σ H s Q hR hm => ?_
  refine h2 σ H s _ hR (hm.bnd.imp fun x s1 H1 _ e1 R1 S1 hk v hv => ?_)
  obtain ⟨d, cd, hk3⟩ := hk.read R1.toRel0 hv
  obtain ⟨r, hr, hk3⟩ := hk3.lift
  cases d with
  | tup ds =>
    cases hr
    obtain ⟨b, xs, rfl, h1, h2⟩ := cd.tup
    refine ⟨b, xs, rfl, h1, fun p hp => ?_⟩
    refine lays_at hp h2.rev fun o ho => ?_
    have ev : Evo noA H1 (upd H1 p o) := .new hp
    exact hk3 _ (ev.mono fun _ z => z.elim) (R1.toRel0.evo0 ev) _ ((show RvNew X.K H1 (upd H1 p o) (.ref p) (.val (.tup ds.reverse)) from ho).back fun p hp => e1.free p hp)
  | _ => cases hr
end
end Dt

end
section
set_option maxRecDepth 100000
set_option autoImplicit false
/-! enumerate over a list or a tuple. -/
namespace PySem
open Sem (wp)
set_option maxHeartbeats 1000000 in
theorem meets_enumerate_newB1 {v : Value} {o : Obj} {H : Heap → Prop} (B : Begins v o H) :
    Meets (Builtin.«enumerate.__new__» ⟨[.type "enumerate", v], []⟩) (fun _ R s => H s.heap ∧
      R (.ok (.ret (.ref (s.heap.push o).objs.size))) { s with heap := (s.heap.push o).push { cls := .type "enumerate", data := .fields #[.none, .bool false, .ref s.heap.objs.size, rawInt 0, .none, .none] } }) :=
  .of_wp fun prog w A R s h => by
    obtain ⟨hp, g, d, tk, os⟩ := s; obtain ⟨h1, h⟩ := h
    have hsub := sub_enumerate
    have q1 : ∀ {A' : Around} {E : Value → Shared → Prop} {Q : Value → Shared → Prop}, Q (.ref hp.objs.size) ⟨hp.push o, g, d, tk, os⟩ → wpAny (model prog w) A' (pyIter v) Q E ⟨hp, g, d, tk, os⟩ :=
      fun q => B.iter prog w _ _ ⟨hp, g, d, tk, os⟩ _ h1 q
    wp_walk using q1
    refine wpAny_stack_any fun st => wpAny_pure ?_
    split
    · rename_i c _ _ _ _ _
      cases (c == Value.type "enumerate")
      · wp_walk using q1
        exact ⟨_, rfl, h⟩
      · wp_walk using q1
        exact ⟨_, rfl, h⟩
    · wp_walk using q1
      exact ⟨_, rfl, h⟩
section
variable {prog : Program} {w : World} {A : Around} {E : Value → Shared → Prop} {s : Shared}
theorem enum_begins1 {v : Value} {o : Obj} {H : Heap → Prop} {Q : Value → Shared → Prop} (B : Begins v o H) (h1 : H s.heap)
    (h : ∀ h', IsEnum h' (s.heap.objs.size + 1) s.heap.objs.size 0 .none → h'.get? s.heap.objs.size = some o → h'.objs.size = s.heap.objs.size + 2 →
      (∀ b o, s.heap.get? b = some o → h'.get? b = some o) → Q (.ref (s.heap.objs.size + 1)) { s with heap := h' }) :
    wpAny (model prog w) A (call (.type "enumerate") [v]) Q E s := by
  refine callType_new F.called_enumerate (by decide) (F.typeCall_enumerate_1 _) (F.newCall_enumerate_1 _) (fun obj => F.args_object_init_2 obj _) F.entry_enumerate_new
    (meets_enumerate_newB1 B) ⟨h1, ?_⟩
  have hz : (s.heap.push o).objs.size = s.heap.objs.size + 1 := Heap.size_push ..
  show _ ∧ _
  rw [hz]
  have he : IsEnum ((s.heap.push o).push { cls := .type "enumerate", data := .fields #[.none, .bool false, .ref s.heap.objs.size, rawInt 0, .none, .none] }) (s.heap.objs.size + 1) s.heap.objs.size 0 .none := by
    have := Heap.get?_push_size (s.heap.push o) (o := { cls := .type "enumerate", data := .fields #[.none, .bool false, .ref s.heap.objs.size, rawInt 0, .none, .none] }) rfl
    rw [hz] at this; exact this
  refine ⟨⟨_, he, rfl⟩, h _ he (Heap.get?_push_of_some _ (Heap.get?_push_size _ B.free)) (by rw [Heap.size_push, hz]) fun b o x => Heap.get?_push_of_some _ (Heap.get?_push_of_some _ x)⟩
end
end PySem
namespace Dt
open PySem PySem.Spec PyProof.Rows L2
def IteX (K : PySem.W.Frag) (t : Bool) (a : Addr) : It where
  go := fun i H => ∃ (xs : List V) (x : V), SqX K H t a xs ∧ xs[i]? = some x
  yld := fun i H v H' => ∃ T x, v = .ref T ∧ H T = none ∧ H' = upd H T (.tup [.int (i : Nat), x]) ∧ ∀ xs, SqX K H t a xs → xs[i]? = some x
  stop := fun i H => ∃ xs : List V, SqX K H t a xs ∧ xs.length = i
theorem turn_enumX {P : Program} {w : World} {K : PySem.W.Frag} {elts : List Expr} {kk : Nat} {tpos : Pos} {t : Bool} (a e it : Addr) (hea : e ≠ a) :
    Turn P w K (.Tuple elts kk tpos) (IteX K t a) [e, it] e (fun i h => (∃ old, IsEnum h e it ((i : Nat) : Int) old) ∧ itI t it a i h ∧ e ≠ it) where
  mem := by simp
  obj := fun i h st b hb => by
    obtain ⟨⟨old, he⟩, hi, _⟩ := st
    have e' : b = e ∨ b = it := by simpa using hb
    rcases e' with z | z
    · rw [z]; exact ⟨_, he, fun v q => nomatch q⟩
    · rw [z]; exact itI_obj hi
  keep := fun i h h' st k => let ⟨⟨old, he⟩, hi, hne⟩ := st; ⟨⟨old, k e (by simp) _ he⟩, itI_at hi fun o q => k it (by simp) o q, hne⟩
  item := by
    intro X hP hw hK hc i pins s σ H E I hf st hg
    subst hP hw hK
    obtain ⟨⟨old, he⟩, hit, hne⟩ := st
    obtain ⟨xs, x, hq, hx⟩ := hg
    obtain ⟨us, rv, p, hz⟩ := sqx_inv I hq
    obtain ⟨u, hu, ru⟩ := rv.get hx
    have hl := rv.length
    have m1 : i < xs.length := (List.getElem?_eq_some_iff.mp hx).1
    have hel : e < s.heap.objs.size := Heap.lt_size he
    have hil : it < s.heap.objs.size := by obtain ⟨_, q, _⟩ := itI_obj hit; exact Heap.lt_size q
    have n1 : a ≠ it := itX_ne hit p
    have hh : X.A.in1.handled = none := I.ok.hd hc
    refine wpAny_pyNext_enum_itemC (itX_draws hh t it a n1 us.toArray) he ⟨hit, p⟩ (by simp; omega) hne (by simp [hne, hea]) fun w h' tk e1 ho hit' hT hsz hk => ?_
    have q1 : u = w := by
      have e1' : us.toArray[i]? = some w := e1
      have : us[i]? = some w := by simpa using e1'
      rw [hu] at this; exact Option.some.inj this
    subst q1
    refine ⟨_, rfl, wpAny_letOwnedTupleGo_enum (s := { s with heap := h', toks := tk + 1 }) ho fun h'' he' sb => ?_⟩
    have hT2 : h''.get? s.heap.objs.size = some { cls := .type "tuple", data := .seq #[.int i tk, u] } := (sb.2 _ (Nat.ne_of_gt hel)).trans hT
    have new : ObjOk X.prog X.w (upd H s.heap.objs.size (.tup [.int (i : Nat), x])) h'' s.heap.objs.size (.tup [.int (i : Nat), x]) :=
      ⟨by show 2 ≤ sizeLine; decide, [.int i tk, u], .cons ⟨_, rfl⟩ (.cons ru .nil), ⟨_, hT2, rfl, _, rfl⟩⟩
    have I1 : Inv X pins σ (upd H s.heap.objs.size (.tup [.int (i : Nat), x])) { s with heap := h'', toks := tk + 1 } :=
      I.turnedNew (ch := [e, it]) (fun b ob hb q => (sb.2 b (fun z => hb (by simp [z]))).trans (hk b ob (fun z => hb (by simp [z])) (fun z => hb (by simp [z])) q)) hf (Nat.le_refl _) new
    refine ⟨.ref s.heap.objs.size, _, I1, rfl, ⟨_, x, rfl, I.hok.fresh (Nat.le_refl _), rfl, fun ys hy => by rw [sqx_one I hy hq]; exact hx⟩, ⟨⟨u, ?_⟩, itI_at hit'.1 fun o q => (sb.2 it (Ne.symm hne)).trans q, hne⟩, fun b hb => ?_⟩
    · have e1 : ((i + 1 : Nat) : Int) = (i : Int) + 1 := by omega
      rw [e1]; exact he'
    · have hb' : b < s.heap.objs.size := by
        have e' : b = e ∨ b = it := by simpa using hb
        rcases e' with z | z
        · rw [z]; exact hel
        · rw [z]; exact hil
      rw [upd_ne (Nat.ne_of_lt hb')]
      exact (hf b hb).1
  done := by
    intro X hP hw hK hc i pins s σ H E I hf st hg
    subst hP hw hK
    obtain ⟨⟨old, he⟩, hit, hne⟩ := st
    obtain ⟨xs, hq, hx⟩ := hg
    obtain ⟨us, rv, p, hz⟩ := sqx_inv I hq
    obtain ⟨f0, f1, f2, f3, f4, f5⟩ := hf it (by simp)
    have hl := rv.length
    have n1 : a ≠ it := itX_ne hit p
    have hh : X.A.in1.handled = none := I.ok.hd hc
    have el : us.toArray.size = i := by simp; omega
    have D := itX_draws (P := X.prog) (w := X.w) hh t it a n1 us.toArray
    exact wpAny_pyNext_enum_endD D he (by rw [el]; exact ⟨hit, p⟩) fun h' eb => ⟨rfl, I.turned (t' := s.toks) (fun b o hb q => eb b o hb q) f0 f1 f3 f4 f5⟩
  self := fun A i s Q E st h => let ⟨⟨_, he⟩, _⟩ := st; wpAny_pyIter_enum he h
def iEnumX (K : PySem.W.Frag) (ta : TA) : TI := fun σ H R => ta σ H fun vs H1 => ∃ t a xs, vs = [.ref a] ∧ SqX K H1 t a xs ∧ R (IteX K t a) H1
theorem pi_enumX {X : Cx} {e : Expr} {ta : TA} {p pos tpos : Pos} {elts : List Expr} {kk : Nat} (hg : Gl X "enumerate") (hm : X.mg "enumerate" = none) (ha : PA X [e] ta) (hs : starEach [e] X.env = [(false, eval e X.env)] := by rfl) :
    PI X (.Tuple elts kk tpos) (.Call (.Name "enumerate" p) [e] [] pos) (iEnumX X.K ta) := by
  refine ⟨fun pins s σ H R I h => ?_⟩
  refine Call_ (ld_blt I hg hm PyProof.Rows.boot_enumerate (PyProof.Rows.callWith_type1 (thn (ha.run pos pins s σ H _ I h) fun us s1 ⟨vs, H1, I1, r1, q1⟩ => ?_) hs rfl))
  obtain ⟨t, a, xs, ex, hq, q⟩ := q1
  subst ex
  cases r1 with
  | cons r rr =>
    cases rr
    cases r
    obtain ⟨ws, rv, p', hz⟩ := sqx_inv I1 hq
    refine enum_begins1 (itX_begins t a ws.toArray) p' fun h' he ho hsz hk => wpAny_pyIter_enum he ?_
    have I2 : Inv X pins σ H1 { s1 with heap := h' } := I1.kept (t' := s1.toks) hk
    refine ⟨s1.heap.objs.size + 1, [s1.heap.objs.size + 1, s1.heap.objs.size], _, _, H1, rfl, I2, turn_enumX a (s1.heap.objs.size + 1) s1.heap.objs.size (fun z => ?_), ⟨⟨.none, he⟩, itX_new ho, Nat.succ_ne_self _⟩, fun b hb => ?_, q⟩
    · have := itL_lt p'
      rw [← z] at this
      exact absurd this (Nat.not_lt.mpr (Nat.le_succ _))
    · have e' : b = s1.heap.objs.size + 1 ∨ b = s1.heap.objs.size := by simpa using hb
      have hle : s1.heap.objs.size ≤ b := by
        rcases e' with z | z
        · rw [z]; exact Nat.le_add_right _ _
        · rw [z]; exact Nat.le_refl _
      exact I1.fpOk hle (I1.hok.fresh hle)
theorem Walks.enumX {K : PySem.W.Frag} {H : Hp} {t : Bool} {a : Addr} {xs : List V} {ds : List D} (h : SqX K H t a xs) (f : t = false → SqF H a xs) (q : AtAll K H ds xs) (b : Bounded K H) : Walks K (IteX K t a) (enumL 0 ds) H where
  go := fun i H1 e hi => by
    rw [enumL_len] at hi
    obtain ⟨x, hx, _⟩ := q.get (List.getElem?_eq_getElem hi)
    exact ⟨xs, x, h.ext f e, hx⟩
  yld := fun i H1 x H2 e ⟨T, y, ex, hT, e2, hx⟩ => by
    subst ex e2
    refine ⟨.new hT, fun z => pair_bd hT z, fun d hd => ?_⟩
    obtain ⟨z, h1, h2⟩ := enumL_get ds 0 i d hd
    subst h2
    obtain ⟨w, hw, hat⟩ := (AtAll.ext e _ _ q).get h1
    rw [hx xs (h.ext f e)] at hw
    cases hw
    rw [Nat.zero_add]
    exact pair_new hT rfl hat rfl
  stop := fun H1 e => ⟨xs, h.ext f e, by rw [q.len, enumL_len]⟩
  line := by
    have : xs.length ≤ sizeLine := by
      cases t with
      | true => exact b.seq a xs (.inr h)
      | false => exact b.seq a xs (.inl h)
    rw [enumL_len, ← q.len]
    exact this
def enumX : List D → Option (List D)
  | [d] => (rowD d).map fun x => enumL 0 x.2
  | _ => none
theorem enumX_tup (ds : List D) : enumX [.tup ds] = some (enumL 0 ds) := rfl
theorem enumX_lst (ds : List D) : enumX [.lst ds] = some (enumL 0 ds) := rfl
section
variable {X : Cx} {ec : EC} {E : L2.WX} {e : Expr} {elts : List Expr} {pos p tpos : Pos} {kk : Nat}
theorem di_enumX {ms : M (List D)} (hg : Gl X "enumerate") (hm : X.mg "enumerate" = none) (ha : DA X ec E [e] ms) (hs : starEach [e] X.env = [(false, eval e X.env)]) : DI X ec E (.Tuple elts kk tpos) (.Call (.Name "enumerate" p) [e] [] pos) (iterL enumX ms) := by
  obtain ⟨t, h1, h2⟩ := ha.run
  refine DI.mk0 (pi_enumX hg hm h1 hs) fun σ H s Q hR hm => ?_
  refine h2 σ H s _ hR (hm.bnd.imp fun ds s1 H1 _ e1 R1 S1 hk vs hvs => ?_)
  obtain ⟨es, hd, hk⟩ := hk.lift
  unfold enumX at hd
  split at hd
  · rename_i d
    obtain ⟨x, hx, hd⟩ := Option.map_eq_some_iff.mp hd
    subst hd
    obtain ⟨v, r, rfl, a1, a2⟩ := hvs.inv
    rw [a2.inv0]
    obtain ⟨a, xs, rfl, b1, b2, b3⟩ := at_row a1 hx
    exact ⟨x.1, a, xs, rfl, b1, hk H1 .refl R1.toRel0 _ (.enumX b1 b2 b3 R1.bnd)⟩
  · cases hd
end
end Dt

end
section
set_option maxRecDepth 100000
set_option autoImplicit false
/-! tuple(reversed(x)), x a list. -/
namespace Dt
open PySem PySem.Spec PyProof.Rows L2
section
variable {X : Cx}
def tTupRevF (K : PySem.W.Frag) (te : TE) : TE := fun σ H Q => te σ H fun x H1 => ∃ a xs, x = .ref a ∧ SqL K H1 a xs ∧ ∀ p, H1 p = none → LaysT Q H1 p xs.reverse
theorem pe_tupRevF {e : Expr} {te : TE} {p p2 pos pos2 : Pos} (hc : X.calm = true) (hg : Gl X "tuple") (hm : X.mg "tuple" = none) (hg2 : Gl X "reversed") (hm2 : X.mg "reversed" = none) (he : PE X e te)
    (hs : starEach [e] X.env = (false, eval e X.env) :: starEach [] X.env)
    (hs2 : starEach [.Call (.Name "reversed" p2) [e] [] pos2] X.env = (false, eval (.Call (.Name "reversed" p2) [e] [] pos2) X.env) :: starEach [] X.env) :
    PE X (.Call (.Name "tuple" p) [.Call (.Name "reversed" p2) [e] [] pos2] [] pos) (tTupRevF X.K te) := by
  refine ⟨fun pins s σ H Q I h => ?_⟩
  refine Call_ (ld_blt I hg hm PyProof.Rows.boot_tuple (PyProof.Rows.callWith_type1 (args_cons (Call_ (ld_blt I hg2 hm2 PyProof.Rows.boot_reversed (PyProof.Rows.callWith_type1 (args_cons (thn (he.run pins s σ H _ I h) fun u s1 ⟨v, H1, I1, r1, q1⟩ => args_nil ?_) hs) hs rfl))) hs2) hs2 rfl))
  obtain ⟨a, xs, ev, hq, q⟩ := q1
  subst ev
  obtain rfl : u = Value.ref a := r1
  obtain ⟨its, rv, p', hz⟩ := I1.list hq
  refine call_reversed_list p'.isList (args_nil ?_)
  have k0 : ∀ b o, s1.heap.get? b = some o → (s1.heap.push (revObj a ((its.toArray.size : Int) - 1))).get? b = some o := fun b o e => Heap.get?_push_of_some _ e
  have I2 : Inv X pins σ H1 { s1 with heap := s1.heap.push (revObj a ((its.toArray.size : Int) - 1)) } := I1.kept (t' := s1.toks) k0
  obtain ⟨f0, f1, f2, f3, f4, f5⟩ := I1.fpOk (H' := H1) (b := s1.heap.objs.size) (Nat.le_refl _) (I1.hok.fresh (Nat.le_refl _))
  have hl := p'.isList
  obtain ⟨ol, hol, _⟩ := id hl
  have hne : a ≠ s1.heap.objs.size := Nat.ne_of_lt (Heap.lt_size hol)
  have hn : its.toArray.size ≤ sizeLine := by rw [List.size_toArray, ← rv.length]; exact hz
  refine RT.call_tuple_rev (s := { s1 with heap := s1.heap.push (revObj a ((its.toArray.size : Int) - 1)) }) (I1.ok.hd hc) ⟨_, Heap.get?_push_size _ rfl, rfl, rfl⟩ (hl.push _) hne hn fun h' tk acc hk hi => ?_
  have I3 : Inv X pins σ H1 { s1 with heap := h', toks := tk } := I2.turned (t' := tk) (fun b o hb e => hk b o hb e) f0 f1 f3 f4 f5
  have := lays_inv (s := { s1 with heap := h' }) (tk := tk) I3 (RT.vals_rev rv hi) (by rw [List.length_reverse]; exact hz) (q _ (I3.hok.fresh (Nat.le_refl _)))
  rw [Array.toArray_toList] at this
  exact this
variable {ec : EC} {E : L2.WX} {e : Expr} {p p2 pos pos2 : Pos}
def trevD : D → Option D
  | .lst ds => some (.tup ds.reverse)
  | _ => none
def trevM (m : M D) : M D := bnd m fun d => lift (trevD d)
theorem ap_trevM (m : M D) (s : DSt) : trevM m s = bnd m (fun d => lift (trevD d)) s := rfl
theorem trev_lst (ds : List D) : trevD (.lst ds) = some (.tup ds.reverse) := rfl
theorem dv_tupRev {m : M D} (hc : X.calm = true) (hg : Gl X "tuple") (hm : X.mg "tuple" = none) (hg2 : Gl X "reversed") (hm2 : X.mg "reversed" = none) (h : DV X ec E e m)
    (hs : starEach [e] X.env = (false, eval e X.env) :: starEach [] X.env)
    (hs2 : starEach [.Call (.Name "reversed" p2) [e] [] pos2] X.env = (false, eval (.Call (.Name "reversed" p2) [e] [] pos2) X.env) :: starEach [] X.env) :
    DV X ec E (.Call (.Name "tuple" p) [.Call (.Name "reversed" p2) [e] [] pos2] [] pos) (trevM m) := by
  obtain ⟨t, h1, h2⟩ := h.run
  refine DV.mk0 (pe_tupRevF hc hg hm hg2 hm2 h1 hs hs2) fun σ H s Q hR hm => ?_
  refine h2 σ H s _ hR (hm.bnd.imp fun d s1 H1 _ e1 R1 S1 hk v hv => ?_)
  obtain ⟨r, hr, hk⟩ := hk.lift
  unfold trevD at hr
  split at hr
  · cases hr
    unfold At at hv
    obtain ⟨a, xs, rfl, h3, h4⟩ := hv
    exact ⟨a, xs, rfl, h3.sql, fun q hq => lays_at hq h4.rev fun o ho => hk _ (.new hq) (R1.toRel0.evo0 (.new hq)) _ ho⟩
  · cases hr
end
end Dt

end
section
set_option maxRecDepth 100000
set_option autoImplicit false
/-! Exceptions of own classes with one field: raise, try with several clauses (a class or a tuple of classes, named or not). -/
namespace Dt
open PySem PySem.Spec PyProof.Rows L2

/-! ### the clauses of a try -/
theorem flying_keep {B : Heap} {l : List Env} {a : Addr} {Z : Obj → Prop} {h h' : Heap} (x : HandSPX.FlyingZ B l a Z h) (k : ∀ b o, h.get? b = some o → h'.get? b = some o) : HandSPX.FlyingZ B l a Z h' := by
  obtain ⟨x1, x2, x3, oe, vs, T, oT, ts, y1, y2, y3, y4, y5, y6, y7, y8, y9⟩ := x
  exact ⟨fun b o e => k b o (x1 b o e), x2, x3.of_keeps fun b o e _ => ⟨o, k b o e, rfl⟩, oe, vs, T, oT, ts, k _ _ y1, y2, y3, y4, y5, y6, k _ _ y7, y8, y9⟩
/-- a clause: the classes that it names, the slot of its name, its suite's reading -/
structure Cl where
  cs : List Value
  nm : Option Nat
  ts : Addr → Value → Option Addr → TS
def slotOut (o : Option Nat) (σ : L2.St) : L2.St := match o with
  | none => σ
  | some i => σ.set i none
def slotIn (o : Option Nat) (a : Addr) (σ : L2.St) : L2.St := match o with
  | none => σ
  | some i => σ.set i (some (.ref a))
def clEnds (o : Option Nat) (D : Ends) : Ends := { nx := fun σ H => D.nx (slotOut o σ) H, rt := D.rt, bk := fun σ H => D.bk (slotOut o σ) H, ct := fun σ H => D.ct (slotOut o σ) H }
/-- what the clauses wish of an exception of the body, one after the other -/
def wCls (K : PySem.W.Frag) (Wout : WX) (D : Ends) : List Cl → WX
  | [] => Wout
  | c :: r => fun cls d σ H => ∃ b, PySem.W.exmAny K cls c.cs = some b ∧ (b = true → ∀ a, H a = none → c.ts a cls d (clEnds c.nm D) (slotIn c.nm a σ) H) ∧ (b = false → wCls K Wout D r cls d σ H)
/-- a clause's test, asked of the exception at a -/
def TestOk (X : Cx) (te : Expr) (cs : List Value) : Prop :=
  ∀ (a : Addr) (oe : Obj) (pn pins : List (Addr × Obj)) (s : Shared) (σ : L2.St) (H : Hp) (cls : Value) (b : Bool) (Q : Bool → Shared → Prop) (E : Value → Shared → Prop), Inv (X.suite a ((a, oe) :: pn)) pins σ H s →
    PySem.W.Looks (model X.prog X.w) s.heap (typeOf (.ref a)) cls → PySem.W.exmAny X.K cls cs = some b →
    (∀ h', (∀ q o, s.heap.get? q = some o → h'.get? q = some o) → Q b { s with heap := h' }) →
    wpAny (model X.prog X.w) (X.A.mark (some (.ref a))) (eval te X.env) (fun c s₁ => wpAny (model X.prog X.w) (X.A.mark (some (.ref a))) (excMatches (.ref a) c) Q E s₁) E s
theorem names_ld {X : Cx} {x : Str} {c : Value} (n : Names X x c) {a : Addr} {oe : Obj} {pn pins : List (Addr × Obj)} {s : Shared} {σ : L2.St} {H : Hp} {np : Pos} {Q : Value → Shared → Prop} {E : Value → Shared → Prop} (S : Inv (X.suite a ((a, oe) :: pn)) pins σ H s) (q : Q c s) :
    wpAny (model X.prog X.w) (X.A.mark (some (.ref a))) (eval (.Name x np) X.env) Q E s := by
  obtain ⟨hg, hd, hm | ⟨hm, hv, hn⟩⟩ := n
  · exact ld_glob (X := X.suite a ((a, oe) :: pn)) S hg hm q hd
  · exact ld_blt (X := X.suite a ((a, oe) :: pn)) S hg hm hv q hn hd
theorem exmAny_one {K : PySem.W.Frag} {cls c : Value} {b : Bool} (h : PySem.W.exmAny K cls [c] = some b) : PySem.W.exmOne K cls c = some b := by
  obtain ⟨b1, d1, e1, e2, rfl⟩ := PySem.W.exmAny_cons h
  have : some false = some d1 := e2
  cases this
  rw [Bool.or_false]
  exact e1
theorem test_one {X : Cx} {x : Str} {c : Value} {np : Pos} (n : Names X x c) : TestOk X (.Name x np) [c] := by
  intro a oe pn pins s σ H cls b Q E S LT he q
  exact names_ld n S ((PySem.W.exm_one S.kIn LT (exmAny_one he)).here (q s.heap fun _ _ z => z))
theorem small_size {α : Type} (l : List α) (h : l.length ≤ 8) : l.length ≤ sizeLine := Nat.le_trans h (by rw [sizeLine_eq]; decide)
theorem test_two {X : Cx} {x1 x2 : Str} {c1 c2 : Value} {p1 p2 tp : Pos} {kk : Nat} (n1 : Names X x1 c1) (n2 : Names X x2 c2) : TestOk X (.Tuple [.Name x1 p1, .Name x2 p2] kk tp) [c1, c2] := by
  intro a oe pn pins s σ H cls b Q E S LT he q
  refine wpAny_Tuple ?_
  refine wpAny_items_cons (names_ld n1 S ?_)
  refine wpAny_items_cons (names_ld n2 S ?_)
  refine wpAny_items_nil ⟨small_size _ (by simp), ?_⟩
  have kp : ∀ q o, s.heap.get? q = some o → (s.heap.push { cls := .type "tuple", data := .seq [c1, c2].toArray }).get? q = some o := fun _ _ z => Heap.get?_push_of_some _ z
  exact (PySem.W.exm_tup2 (S.kIn.keeps kp) (LT.keeps kp) (Heap.get?_push_size s.heap rfl) he).here (q _ kp)
theorem test_three {X : Cx} {x1 x2 x3 : Str} {c1 c2 c3 : Value} {p1 p2 p3 tp : Pos} {kk : Nat} (n1 : Names X x1 c1) (n2 : Names X x2 c2) (n3 : Names X x3 c3) : TestOk X (.Tuple [.Name x1 p1, .Name x2 p2, .Name x3 p3] kk tp) [c1, c2, c3] := by
  intro a oe pn pins s σ H cls b Q E S LT he q
  refine wpAny_Tuple ?_
  refine wpAny_items_cons (names_ld n1 S ?_)
  refine wpAny_items_cons (names_ld n2 S ?_)
  refine wpAny_items_cons (names_ld n3 S ?_)
  refine wpAny_items_nil ⟨small_size _ (by simp), ?_⟩
  have kp : ∀ q o, s.heap.get? q = some o → (s.heap.push { cls := .type "tuple", data := .seq [c1, c2, c3].toArray }).get? q = some o := fun _ _ z => Heap.get?_push_of_some _ z
  exact (PySem.W.exm_tup3 (S.kIn.keeps kp) (LT.keeps kp) (Heap.get?_push_size s.heap rfl) he).here (q _ kp)
/-- the name of a clause -/
def NmOk (X : Cx) : Option Str → Option Nat → Prop
  | none, none => True
  | some n, some i => X.N[i]? = some n ∧ X.env.kindOf n = some .local
  | _, _ => False
inductive ClsOk (X : Cx) : List ExceptHandler → List Cl → Prop
  | nil : ClsOk X [] []
  | cons {te : Expr} {n : Option Str} {c : Cl} {b₀ : Stmt} {suite : List Stmt} {pos' : Pos} {hds : List ExceptHandler} {l : List Cl} (ht : TestOk X te c.cs) (hn : NmOk X n c.nm)
      (hsu : ∀ (a : Addr) (oe : Obj) (cls : Value) (d : Option Addr) (pn : List (Addr × Obj)), Zc cls d oe → (∃ vs, oe.data = .fields vs) → PSs (X.suite a ((a, oe) :: pn)) (b₀ :: suite) (c.ts a cls d)) (r : ClsOk X hds l) :
      ClsOk X (.ExceptHandler (some te) n (b₀ :: suite) pos' :: hds) (c :: l)
section
variable {X : Cx} {body : List Stmt} {h₀ : ExceptHandler} {hds : List ExceptHandler} {l : List Cl} {pos : Pos} {tb : WX → TS} {Wout : WX}
theorem ps_try_cls (hs : X.stack = X.env :: X.outer) (hf : X.env.frame = some X.env.locals) (hN : X.N.Nodup) (tk : Takes X Wout)
    (hb : ∀ (W : WX) (pn : List (Addr × Obj)) (xe : Value → Shared → Prop), Takes (X.tr pn xe) W → PassesOwn (model X.prog X.w) X.A X.env xe → PSs (X.tr pn xe) body (tb W))
    (hh : ClsOk X (h₀ :: hds) l) : PS X (.Try body (h₀ :: hds) [] [] pos) (fun D σ H => tb (wCls X.K Wout D l) D σ H) := by
  refine ⟨fun pins s σ H D I h => ?_⟩
  have ok := I.ok
  have hfr : X.A.frames = some (X.env :: X.outer) := by rw [ok.frames, hs]
  refine wpAny_Try_except ?_
  refine wpAny_mono ((hb (wCls X.K Wout D l) (X.pn ++ pins) (fun e s₁ => wpAny (model X.prog X.w) X.A (noteFrame e X.env) (fun _ s₂ => wpAny (model X.prog X.w) X.A (setFlight e none) (fun _ s₃ =>
    wpAny (model X.prog X.w) X.A (handleBy e X.env (h₀ :: hds)) (SP X pins D) X.xe s₃) X.xe s₂) X.xe s₁) (fun u s' xx => ?_) PassesOwn.looking).run [] s σ H D (I.toTry _) h) (fun f s1 hsp => ?_) (fun e s1 he => he)
  · obtain ⟨a, B, sI, pins', σ', H', cls, d, rfl, J', nb, up, sky, na, os, ag, w⟩ := xx
    have J : Inv X pins σ' H' sI := J'.ofTry ok
    have sky' : Sky B (X.env :: X.outer) a (Zc cls d) X.env.locals s'.heap := by rw [← hs]; exact sky
    show wpAny (model X.prog X.w) X.A (noteFrame (.ref a) X.env) _ _ _
    refine Sky.land Zc.steady hfr hf sky' fun h3 fl3 up3 => ?_
    -- one clause after the other, the heap growing
    have go : ∀ {hds' : List ExceptHandler} {l' : List Cl}, ClsOk X hds' l' → wCls X.K Wout D l' cls d σ' H' → ∀ h4, HandSPX.FlyingZ B (X.env :: X.outer) a (Zc cls d) h4 → sI.heap.UpToSlots h4 →
        wpAny (model X.prog X.w) X.A (handleBy (.ref a) X.env hds') (SP X pins D) X.xe { s' with heap := h4 } := by
      intro hds' l' hk
      induction hk with
      | nil =>
        intro w h4 fl up4
        refine wpAny_handleBy_nil ?_
        obtain ⟨k1, k2, k3, oe, vs, T, oT, ts', he, hz, hd, h1, hr⟩ := id fl
        unfold PySem.passOn
        refine wpAny_bind (wpAny_field he hd h1 ?_)
        rw [if_neg (show ¬ ((Value.ref T == Value.none) = true) from by simp)]
        have fin : wpAny (model X.prog X.w) X.A (setFlight (.ref a) X.env.frame) (fun _ s4 => wpAny (model X.prog X.w) X.A (throw (.ref a) : Sem PySem.Flow) (SP X pins D) X.xe s4) X.xe { s' with heap := h4 } := by
          rw [hf]
          refine HandSPX.setFlight_upZ fl fun h5 hh5 up5 => wpAny_throw (tk _ _ ?_)
          exact ⟨a, B, sI, pins, σ', H', cls, d, rfl, J, nb, up4.trans up5, .inr (.inr (by rw [hs]; exact hh5)), na, os, ag, w⟩
        first
          | exact wpAny_bind (wpAny_pure (wpAny_bind fin))
          | exact wpAny_bind fin
      | @cons te n c b₀ suite pos' hds2 l2 ht hn hsu r ih =>
        intro w h4 fl up4
        obtain ⟨b, hb1, hyes, hno⟩ := w
        have J4 : Inv X pins σ' H' { s' with heap := h4 } := J.landed nb fl.1 up4 os ag
        obtain ⟨oe4, vs4, he4, hz4, hd4⟩ := fl.there
        have nfr : a ∉ frs (X.env :: X.outer) := fun hm => by
          obtain ⟨_, o', e', hnf⟩ := fl.2.2.1.mem hm
          rw [he4] at e'
          cases e'
          exact hnf _ hd4
        have nL : a ≠ X.env.locals := fun z => nfr (List.mem_filterMap.mpr ⟨X.env, List.mem_cons_self, by rw [hf, z]⟩)
        have nF : a ∉ X.fs := fun hm => by
          obtain ⟨e, he, q⟩ := List.mem_filterMap.mp hm
          exact nfr (List.mem_filterMap.mpr ⟨e, List.mem_cons_of_mem _ he, q⟩)
        have S4 := J4.suite he4 hd4 na nL nF
        have LT : PySem.W.Looks (model X.prog X.w) h4 (typeOf (.ref a)) cls := fun A Q E s k q => wpAny_typeOf_ref (k _ _ he4) (by rw [hz4.1]; exact q)
        refine wpAny_handleBy_cons (codeAny_handlers_test ?_) (by intro q; cases q)
        refine ht a oe4 (X.pn ++ pins) [] _ _ _ cls b _ _ S4 LT hb1 fun h5 k5 => ?_
        have fl5 := flying_keep fl k5
        have up5 : sI.heap.UpToSlots h5 := up4.trans (Heap.UpToSlots.of_keeps k5)
        cases b with
        | false => exact ih (hno rfl) h5 fl5 up5
        | true =>
          cases n with
          | none =>
            cases hnm : c.nm with
            | some i => rw [hnm] at hn; exact hn.elim
            | none =>
              have hy := hyes rfl a na
              rw [hnm] at hy
              refine codeAny_handlers_suite ?_
              refine HandSPX.lands_againZ fl5 fun h6 fl6 up6 => ?_
              have J6 : Inv X pins σ' H' { s' with heap := h6 } := J.landed nb fl6.1 (up5.trans up6) os ag
              obtain ⟨oe6, vs6, he6, hz6, hd6⟩ := fl6.there
              have S6 := J6.suite he6 hd6 na nL nF
              refine wpAny_mono ((hsu a oe6 cls d (X.pn ++ pins) hz6 ⟨_, hd6⟩).run [] _ _ H' _ S6 hy) (fun f s7 hsp => ?_) (fun _ _ z => False.elim z)
              cases f with
              | ret u =>
                obtain ⟨v7, σ7, H7, S7, r7, q7⟩ := hsp
                exact ⟨_, _, _, S7.unsuite ok, r7, q7⟩
              | _ =>
                obtain ⟨σ7, H7, S7, q7⟩ := hsp
                exact ⟨_, _, S7.unsuite ok, q7⟩
          | some nn =>
            cases hnm : c.nm with
            | none => rw [hnm] at hn; exact hn.elim
            | some i =>
              rw [hnm] at hn
              obtain ⟨hi, hln⟩ := hn
              have hloc : Loc X.env.scope nn := .inl hln
              have hy := hyes rfl a na
              rw [hnm] at hy
              refine codeAny_handlers_suite_as ?_
              refine HandSPX.lands_againZ fl5 fun h6 fl6 up6 => ?_
              have J6 : Inv X pins σ' H' { s' with heap := h6 } := J.landed nb fl6.1 (up5.trans up6) os ag
              obtain ⟨oe6, vs6, he6, hz6, hd6⟩ := fl6.there
              have S6 := J6.suite he6 hd6 na nL nF
              refine store_ok (X := X.suite a ((a, oe6) :: (X.pn ++ pins))) (v := .ref a) S6 hN hi hloc rfl (fun s6 S6' => ?_) (.inr hln)
              refine wpAny_mono ((hsu a oe6 cls d (X.pn ++ pins) hz6 ⟨_, hd6⟩).run [] s6 _ H' _ S6' hy) (fun f s7 hsp => ?_) (fun _ _ z => False.elim z)
              have end_ : ∀ {σ7 : L2.St} {H7 : Hp} {Q : Shared → Prop}, Inv (X.suite a ((a, oe6) :: (X.pn ++ pins))) [] σ7 H7 s7 → (∀ s8, Inv X pins (σ7.set i none) H7 s8 → Q s8) →
                  wpAny (model X.prog X.w) X.A (do bindName X.env nn .none; unbindBehindTheSuite X.env nn pos') (fun _ s8 => Q s8) X.xe s7 := fun {σ7 H7 Q} S7 hq => gone_ok (S7.unsuite ok) hN hi hln hq
              cases f with
              | ret u =>
                obtain ⟨v7, σ7, H7, S7, r7, q7⟩ := hsp
                exact end_ S7 fun s8 J8 => ⟨_, _, _, J8, r7, q7⟩
              | next =>
                obtain ⟨σ7, H7, S7, q7⟩ := hsp
                exact end_ S7 fun s8 J8 => ⟨_, _, J8, q7⟩
              | brk =>
                obtain ⟨σ7, H7, S7, q7⟩ := hsp
                exact end_ S7 fun s8 J8 => ⟨_, _, J8, q7⟩
              | cont =>
                obtain ⟨σ7, H7, S7, q7⟩ := hsp
                exact end_ S7 fun s8 J8 => ⟨_, _, J8, q7⟩
    exact go hh w h3 fl3 (up.trans up3)
  · cases f with
    | next =>
      obtain ⟨σ', H', J', q⟩ := hsp
      exact wpAny_execs_nil ⟨σ', H', J'.ofTry ok, q⟩
    | brk =>
      obtain ⟨σ', H', J', q⟩ := hsp
      exact ⟨σ', H', J'.ofTry ok, q⟩
    | cont =>
      obtain ⟨σ', H', J', q⟩ := hsp
      exact ⟨σ', H', J'.ofTry ok, q⟩
    | ret u =>
      obtain ⟨v, σ', H', J', r, q⟩ := hsp
      exact ⟨v, σ', H', J'.ofTry ok, r, q⟩
end
end Dt

end
section
set_option maxRecDepth 100000
set_option autoImplicit false
/-! raise and try over the trees. -/
namespace Dt
open PySem PySem.Spec PyProof.Rows L2

/-! ### an own class with one field -/
def spIni (C : Addr) (f : Str) : Sp := fun vs H Q _ => ∃ (a : Addr) (v : V), vs = [.ref a, v] ∧ H a = some (exo a C none) ∧ ∀ dx, H dx = none → dx ≠ a → Q .non (upd (upd H dx (exd dx [(f, v)])) a (exo a C (some dx)))
structure ExF (K : PySem.W.Frag) (mg : Str → Option Value) (x : Str) (C : Addr) (f : Str) : Prop where
  gC : mg x = some (.ref C)
  ox : OexC K C
  xf : XfC K C
  noF : PySem.W.findIn K (.ref C) f = some none
  ic : ExcC K C
  ini : ∃ (fI : Addr) (fd : FuncData), PySem.W.findIn K (.ref C) "__init__" = some (some (.ref fI)) ∧ PySem.W.typeIn K (.ref fI) = some (.type "function") ∧ (∀ (P : Program) (w : World) (base : Heap), FnOk P w K mg base CX0 1 fI fd ["self", f] (spIni C f)) ∧ Binds K fd ["self", f] []
theorem ini_ok {K : PySem.W.Frag} {mg : Str → Option Value} {C fI : Addr} {fd : FuncData} {f qual : Str} {st : Stmt} {p1 p2 p3 p4 : Pos} (F : Fun K "__init__" qual st fI fd) (S : FnScope ["self", f] ["self", f] (defScope st)) (hbody : defBody st = [.Assign [.Attribute (.Name "self" p1) f p2] (.Name f p3) p4])
    (hv0 : Vis (defScope st) "self") (hv1 : Vis (defScope st) f) (hd : (f == ("__debug__" : Str)) = false) (hcd : (f == ("__classdict__" : Str)) = false) (ox : OexC K C) (noF : PySem.W.findIn K (.ref C) f = some none) (P : Program) (w : World) (base : Heap) : FnOk P w K mg base CX0 1 fI fd ["self", f] (spIni C f) := by
  refine F.ok S (fun vs H Q E h => ?_) (fun cdv A outer s H vs Q E hr h => ?_)
  · obtain ⟨a, v, rfl, _⟩ := h
    rfl
  · rw [hbody]
    refine ⟨_, pss_one (ps_ost (pe_var (i := 0) rfl hv0) (pe_var (i := 1) rfl hv1 hd hcd)), ?_⟩
    obtain ⟨a, v, rfl, e, k⟩ := h
    exact ⟨v, rfl, .ref a, rfl, a, C, rfl, ox, noF, .inl ⟨e, fun dx n ne => k dx n ne⟩⟩
/-- raise x(e) -/
def raiseS (x : Str) (m : M D) : MS := bndS m fun d s => some (.ex x d, s)
theorem Bounded.newXd {K : PySem.W.Frag} {H : Hp} {p : Addr} {fs : List (Str × V)} (b : Bounded K H) (hp : H p = none) : Bounded K (upd H p (.xd fs)) := by
  have rd : ∀ {a : Addr} {u : HO}, u ≠ .xd fs → Rd (upd H p (.xd fs)) a u → Rd H a u := fun {a u} hu h => by
    rcases h with h | ⟨o, h⟩
    · by_cases z : a = p
      · rw [z, upd_same] at h
        exact absurd (Option.some.inj h).symm hu
      · rw [upd_ne z] at h
        exact .inl h
    · by_cases z : a = p
      · rw [z, upd_same] at h
        cases h
      · rw [upd_ne z] at h
        exact .inr ⟨o, h⟩
  refine ⟨fun a xs h => b.seq a xs ?_, fun a es h => b.dK a es (rd (by intro z; cases z) h), fun a es h => b.dT a es (rd (by intro z; cases z) h)⟩
  rcases h with (h | h) | (h | h)
  · exact .inl (.inl (rd (by intro z; cases z) h))
  · exact .inl (.inr h)
  · exact .inr (.inl (rd (by intro z; cases z) h))
  · exact .inr (.inr h)
section
variable {X : Cx} {ec : EC} {E : L2.WX} {ow : List Nat} {e : Expr} {x f : Str} {C : Addr} {p pos pos2 : Pos}
theorem upd_del {H1 : Hp} {a dx C : Addr} {f : Str} {v : V} (ha : H1 a = none) (hd : dx ≠ a) :
    upd (del (upd (upd (upd H1 a (exo a C none)) dx (exd dx [(f, v)])) a (exo a C (some dx))) a) dx (.xd [(f, v)]) = upd H1 dx (.xd [(f, v)]) := by
  funext b
  by_cases h1 : b = dx
  · rw [h1, upd_same, upd_same]
  · rw [upd_ne h1, upd_ne h1]
    by_cases h2 : b = a
    · rw [h2, del_same, ha]
    · rw [del_ne h2, upd_ne h2, upd_ne h1, upd_ne h2]
theorem ds_raise {m : M D} (hc : X.calm = true) (tk : Takes X E) (T : ExF X.K X.mg x C f) (he : ec x = some (C, f)) (hr : Room 2 X.A) (hv : DV X ec E e m) (hg : Gl X x) (hdb : (x == ("__debug__" : Str)) = false)
    (hst : starEach (e :: []) X.env = (false, eval e X.env) :: starEach [] X.env) (hpl : (backTo pos (starEach [] X.env)).any (·.1) = false) : DS X ec E ow (.Raise (some (.Call (.Name x p) [e] [] pos)) none pos2) (raiseS x m) := by
  obtain ⟨t, h1, h2⟩ := hv.run
  obtain ⟨fI, fd, i1, i2, F, hb⟩ := T.ini
  refine ⟨_, ps_raise hc tk (pmk_oex T.ox i1 i2 (F X.prog X.w X.base) hr hb .nil pass0 hg T.gC (pa_cons h1 pa_nil hst) hdb hst hpl), fun c k1 k2 k3 k4 σ H s D R hm => ?_⟩
  have h2' : Comes c.K c.ec c.E (RVal c.K) m t := by rw [k1, k2, k3]; exact h2
  show t σ H _
  refine useE (k := fun d s => some (.ex x d, s)) h2' R hm fun d s' H1 v ev sb R' hg hk => ?_
  show [v].length ≤ 1000 ∧ _
  refine ⟨by simp, fun a ha => ⟨a, v, rfl, upd_same, fun dx n ne => ⟨rfl, dx, [(f, v)], upd_same, ?_, ?_, ?_⟩⟩⟩
  · rw [upd_ne ne, upd_same]
  · rw [upd_ne ne] at n
    exact n
  · have n1 : H1 dx = none := by rw [upd_ne ne] at n; exact n
    show E (.ref C) (some dx) σ _
    rw [upd_del ha ne, ← k3]
    have evo : Evo (OwnsA σ s') H1 (upd H1 dx (.xd [(f, v)])) := Evo.new n1
    have rel : Rel c.K σ (upd H1 dx (.xd [(f, v)])) s' := ⟨R'.toRel0.evo0 (Evo.new n1), R'.bnd.newXd n1⟩
    exact hk (.ref C) (some dx) σ _ evo.ext (R'.step evo rel (Sub.refl _)) ⟨C, f, dx, v, by rw [k2]; exact he, rfl, rfl, upd_same, At.ext evo.ext _ _ hg⟩
end

/-! ### try -/
def putO (o : Option Nat) (s : DSt) : DSt := match o with
  | none => s
  | some i => s.set i none
/-- a clause: the classes that it takes, the slot of its name, the slots that its suite sets, and to what -/
structure Cla where
  take : Str → Bool
  nm : Option Nat
  as : List (Nat × (Str → D → RV))
def asFor (x : Str) (l : List (Nat × (Str → D → RV))) : List (Nat × (D → RV)) := l.map fun p => (p.1, p.2 x)
def setAll (d : D) : List (Nat × (D → RV)) → DSt → DSt
  | [], s => s
  | (i, g) :: r, s => setAll d r (s.set i (some (g d)))
def nmIn (o : Option Nat) (n : Nat) : Bool := match o with
  | none => true
  | some i => decide (i < n)
def handS : List Cla → Str → D → MS
  | [], c, d => fun s => some (.ex c d, s)
  | k :: r, c, d => if k.take c = true then fun s => if nmIn k.nm s.length = true then some (.nx, putO k.nm (setAll d (asFor c k.as) (putO k.nm s))) else none else handS r c d
def tryS (b : MS) (l : List Cla) : MS := fun s => match b s with
  | some (.ex c d, s') => handS l c d s'
  | o => o
theorem RelS.forget {c : Ent} {σ : Sl} {H : Hp} {s : DSt} {i : Nat} {u : Option V} (R : RelS c σ H s) (hi : i ∉ c.ow) : RelS c (σ.set i u) H (s.set i none) := by
  have get : ∀ (j : Nat) (q : RV), (s.set i none)[j]? = some (some q) → j ≠ i ∧ s[j]? = some (some q) := fun j q h => by
    by_cases e : i = j
    · subst e
      have hl : i < s.length := by
        have := (List.getElem?_eq_some_iff.mp h).1
        rw [List.length_set] at this
        exact this
      rw [List.getElem?_set_self hl] at h
      cases h
    · rw [List.getElem?_set_ne e] at h
      exact ⟨fun z => e z.symm, h⟩
  have at_ : ∀ j, j ≠ i → (σ.set i u)[j]? = σ[j]? := fun j hj => List.getElem?_set_ne fun z => hj z.symm
  refine ⟨⟨⟨by rw [List.length_set, List.length_set]; exact R.len, fun j q h => ?_, fun j k q q' a h1 h2 o1 o2 h3 h4 => ?_⟩, R.bnd⟩, R.evo, fun j q a h1 o h3 => ?_, fun j hj => ?_, fun j q h0 h1 o => ?_⟩
  · obtain ⟨ne, h⟩ := get j q h
    rw [at_ j ne]
    exact R.ok j q h
  · obtain ⟨n1, h1⟩ := get j q h1
    obtain ⟨n2, h2⟩ := get k q' h2
    rw [at_ j n1] at h3
    rw [at_ k n2] at h4
    exact R.sep j k q q' a h1 h2 o1 o2 h3 h4
  · obtain ⟨n1, h1⟩ := get j q h1
    rw [at_ j n1] at h3
    exact R.base j q a h1 o h3
  · rw [at_ j (fun z => hi (z ▸ hj))]
    exact R.par j hj
  · obtain ⟨n1, h1⟩ := get j q h1
    exact R.osub j q h0 h1 o
theorem RelS.out {c : Ent} {σ : Sl} {H : Hp} {s : DSt} {o : Option Nat} (R : RelS c σ H s) (hi : ∀ i, o = some i → i ∉ c.ow) : RelS c (slotOut o σ) H (putO o s) := by
  cases o with
  | none => exact R
  | some i => exact R.forget (hi i rfl)
theorem RelS.into {c : Ent} {σ : Sl} {H : Hp} {s : DSt} {o : Option Nat} {a : Addr} (R : RelS c σ H s) (hi : ∀ i, o = some i → i ∉ c.ow) : RelS c (slotIn o a σ) H (putO o s) := by
  cases o with
  | none => exact R
  | some i => exact R.forget (hi i rfl)
/-- what a suite knows of the exception -/
structure Kn (K : PySem.W.Frag) (nm : Option Nat) (a : Addr) (f : Str) (dx : Option Addr) (d : D) (σ : Sl) (H : Hp) : Prop where
  sl : ∀ i, nm = some i → σ[i]? = some (some (.ref a))
  xd : ∃ dd v, dx = some dd ∧ H dd = some (.xd [(f, v)]) ∧ At K H d v
theorem Kn.evo {K : PySem.W.Frag} {nm : Option Nat} {a : Addr} {f : Str} {dx : Option Addr} {d : D} {σ : Sl} {H H' : Hp} (k : Kn K nm a f dx d σ H) (e : Evo noA H H') : Kn K nm a f dx d σ H' := by
  obtain ⟨dd, v, h1, h2, h3⟩ := k.xd
  exact ⟨k.sl, dd, v, h1, e.keep _ _ h2 id, At.ext e.ext _ _ h3⟩
theorem Kn.set {K : PySem.W.Frag} {nm : Option Nat} {a : Addr} {f : Str} {dx : Option Addr} {d : D} {σ : Sl} {H : Hp} {i : Nat} {u : Option V} (k : Kn K nm a f dx d σ H) (hi : nm ≠ some i) : Kn K nm a f dx d (σ.set i u) H := by
  refine ⟨fun j e => ?_, k.xd⟩
  rw [List.getElem?_set_ne (fun z => hi (by rw [e, z]))]
  exact k.sl j e
/-- an expression of a suite -/
structure DX (Y : Cx) (nm : Option Nat) (a : Addr) (f : Str) (dx : Option Addr) (e : Expr) (g : D → RV) : Prop where
  run : ∃ t, PE Y e t ∧ ∀ σ H s d Q, Rel Y.K σ H s → Kn Y.K nm a f dx d σ H → (∀ u H', Evo noA H H' → Rel Y.K σ H' s → RvNew Y.K H H' u (g d) → Q u H') → t σ H Q
/-- a suite of assignments -/
structure SuOk (Y : Cx) (ow : List Nat) (nm : Option Nat) (a : Addr) (f : Str) (dx : Option Addr) (sts : List Stmt) (l : List (Nat × (D → RV))) : Prop where
  run : ∃ t, PSs Y sts t ∧ ∀ (c : Ent), c.K = Y.K → c.ow = ow → ∀ σ H s d D, RelS c σ H s → Kn Y.K nm a f dx d σ H → (∀ σ' H', Ext H H' → RelS c σ' H' (setAll d l s) → D.nx σ' H') → t D σ H
section
variable {Y : Cx} {ow : List Nat} {nm : Option Nat} {a : Addr} {f : Str} {dx : Option Addr} {sts : List Stmt} {l : List (Nat × (D → RV))} {e : Expr} {g : D → RV} {i : Nat} {x : Str} {px pos : Pos}
theorem su_nil : SuOk Y ow nm a f dx [] [] := ⟨_, pss_nil, fun c _ _ σ H s d D R _ h => h σ H (Ext.refl _) R⟩
theorem su_cons (h : DX Y nm a f dx e g) (hN : Y.N.Nodup) (hx : Y.N[i]? = some x) (hl : Loc Y.env.scope x) (hi : i ∉ ow) (hn : nm ≠ some i) (hs : swapsWith e (some (.Name x px)) pos.line Y.env = pure false) (hf : Y.fn x = true ∨ Y.env.scope.names.lookup x = some .local) (r : SuOk Y ow nm a f dx sts l) :
    SuOk Y ow nm a f dx (.Assign [.Name x px] e pos :: sts) ((i, g) :: l) := by
  obtain ⟨t, h1, h2⟩ := h.run
  obtain ⟨u, h3, h4⟩ := r.run
  refine ⟨_, pss_cons (ps_set hN hx hl h1 hs hf) h3, fun c k1 k4 σ H s d D R kn hm => ?_⟩
  refine h2 σ H s d _ (by rw [← k1]; exact R.toRel) kn fun v H' ev R' hv => ?_
  have R1 : RelS c σ H' s := R.step (ev.mono fun _ z => z.elim) (by rw [k1]; exact R') (Sub.refl _)
  have hv' : RvNew c.K H H' v (g d) := by rw [k1]; exact hv
  have R2 : RelS c (σ.set i (some v)) H' (s.set i (some (g d))) := R1.set (by rw [k4]; exact hi) hv'.at_ fun o b eb => by
    subst eb
    obtain ⟨n, _⟩ := hv'.fresh o
    exact ⟨R.evo.free b n, fun z => own_new R.toRel0 n z⟩
  exact h4 c k1 k4 _ H' _ d D R2 ((kn.evo ev).set hn) fun σ' H'' ex R3 => hm σ' H'' (ev.ext.trans ex) R3
end
inductive ClasOk (X : Cx) (ec : EC) (ow : List Nat) : List ExceptHandler → List Cla → Prop
  | nil : ClasOk X ec ow [] []
  | cons {te : Expr} {n : Option Str} {k : Cla} {cs : List Value} {b₀ : Stmt} {suite : List Stmt} {pos' : Pos} {hds : List ExceptHandler} {l : List Cla} (ht : TestOk X te cs) (hn : NmOk X n k.nm) (how : ∀ i, k.nm = some i → i ∉ ow)
      (hx : ∀ x C f, ec x = some (C, f) → PySem.W.exmAny X.K (.ref C) cs = some (k.take x))
      (hsu : ∀ x C f, ec x = some (C, f) → k.take x = true → ∀ (a : Addr) (oe : Obj) (dx : Option Addr) (pn : List (Addr × Obj)), Zc (.ref C) dx oe → (∃ vs, oe.data = .fields vs) → SuOk (X.suite a ((a, oe) :: pn)) ow k.nm a f dx (b₀ :: suite) (asFor x k.as))
      (r : ClasOk X ec ow hds l) : ClasOk X ec ow (.ExceptHandler (some te) n (b₀ :: suite) pos' :: hds) (k :: l)
/-- the same slots and heaps, another wish -/
theorem RelS.ent {c c' : Ent} {σ : Sl} {H : Hp} {s : DSt} (R : RelS c σ H s) (h1 : c'.K = c.K) (h2 : c'.σ0 = c.σ0) (h3 : c'.rs = c.rs) (h4 : c'.H0 = c.H0) (h5 : c'.ow = c.ow) : RelS c' σ H s := by
  obtain ⟨K, ec, E, σ0, rs, H0, ow⟩ := c
  obtain ⟨K', ec', E', σ0', rs', H0', ow'⟩ := c'
  dsimp only at h1 h2 h3 h4 h5
  subst h1 h2 h3 h4 h5
  exact ⟨R.toRel, R.evo, R.base, R.par, R.osub⟩
/-- a body's reading, by what it comes to -/
def semT (X : Cx) (ec : EC) (ow : List Nat) (m : MS) (W : WX) : TS := fun D σ H => ∃ (c : Ent) (s : DSt), c.K = X.K ∧ c.ec = ec ∧ c.E = W ∧ c.ow = ow ∧ RelS c σ H s ∧ EndS c H D (m s)
/-- a suite's reading -/
def suT (X : Cx) (ec : EC) (ow : List Nat) (k : Cla) : Addr → Value → Option Addr → TS := fun a cls dx D0 σ H => ∃ (x : Str) (C : Addr) (f : Str) (c : Ent) (s : DSt) (d : D), ec x = some (C, f) ∧ k.take x = true ∧ cls = .ref C ∧ c.K = X.K ∧ c.ow = ow ∧ RelS c σ H s ∧ Kn X.K k.nm a f dx d σ H ∧
  (∀ σ' H', Ext H H' → RelS c σ' H' (setAll d (asFor x k.as) s) → D0.nx σ' H')
section
variable {X : Cx} {ec : EC} {E : L2.WX} {ow : List Nat}
theorem psS_weak {sts : List Stmt} {t t' : TS} (h : PSs X sts t) (i : ∀ D σ H, t' D σ H → t D σ H) : PSs X sts t' := ⟨fun pins s σ H D I hq => h.run pins s σ H D I (i _ _ _ hq)⟩
theorem slotIn_at {o : Option Nat} {a : Addr} {σ : Sl} (h : nmIn o σ.length = true) : ∀ i, o = some i → (slotIn o a σ)[i]? = some (some (.ref a)) := by
  rintro i rfl
  exact List.getElem?_set_self (of_decide_eq_true h)
theorem clas_cls {hds : List ExceptHandler} {l : List Cla} (h : ClasOk X ec ow hds l) : ∃ cl : List Cl, ClsOk X hds cl ∧
    ∀ (c : Ent) (D0 : Ends) (k : Str) (d : D) (s : DSt) (H : Hp), c.K = X.K → c.ec = ec → c.E = E → c.ow = ow → EndS c H D0 (handS l k d s) → ∀ cls dx σ' H', Ext H H' → RelS c σ' H' s → ErrAt c.K c.ec H' k d cls dx → wCls X.K E D0 cl cls dx σ' H' := by
  induction h with
  | nil => exact ⟨[], .nil, fun c D0 k d s H k1 k2 k3 k4 hm cls dx σ' H' ex R he => by rw [← k3]; exact hm cls dx σ' H' ex R he⟩
  | @cons te n k cs b₀ suite pos' hds l ht hn how hx hsu r ih =>
    obtain ⟨cl, i1, i2⟩ := ih
    refine ⟨⟨cs, k.nm, suT X ec ow k⟩ :: cl, .cons ht hn (fun a oe cls dx pn hz hf => ⟨fun pins s σ H D0 I hq => ?_⟩) i1, fun c D0 x d s H k1 k2 k3 k4 hm cls dx σ' H' ex R he => ?_⟩
    · obtain ⟨x, C, f, c, s', d, q1, q2, q3, q4, q5, q6, q7, q8⟩ := hq
      subst q3
      obtain ⟨t, h1, h2⟩ := (hsu x C f q1 q2 a oe dx pn hz hf).run
      exact h1.run pins s σ H D0 I (h2 c q4 q5 σ H s' d D0 q6 q7 q8)
    · have he0 := he
      obtain ⟨C, f, av, v, g1, g2, g3, g4, g5⟩ := he
      subst g2
      have g1' : ec x = some (C, f) := by rw [← k2]; exact g1
      refine ⟨k.take x, hx x C f g1', fun hb a na => ?_, fun hb => ?_⟩
      · have hm' : EndS c H D0 (if nmIn k.nm s.length = true then some (.nx, putO k.nm (setAll d (asFor x k.as) (putO k.nm s))) else none) := by
          have e : handS (k :: l) x d s = (if nmIn k.nm s.length = true then some (.nx, putO k.nm (setAll d (asFor x k.as) (putO k.nm s))) else none) := by
            show (if k.take x = true then _ else handS l x d) s = _
            rw [if_pos hb]
          rw [← e]
          exact hm
        cases hl : nmIn k.nm s.length with
        | false => rw [hl] at hm'; exact hm'.elim
        | true =>
          rw [hl, if_pos rfl] at hm'
          have how' : ∀ i, k.nm = some i → i ∉ c.ow := fun i e => by rw [k4]; exact how i e
          refine ⟨x, C, f, c, putO k.nm s, d, g1', hb, rfl, k1, k4, R.into how', ⟨slotIn_at (by rw [← R.len]; exact hl), av, v, g3, g4, by rw [← k1]; exact g5⟩, fun σ2 H2 ex2 R2 => ?_⟩
          exact hm' _ H2 (ex.trans ex2) (R2.out how')
      · refine i2 c D0 x d s H k1 k2 k3 k4 ?_ _ dx σ' H' ex R he0
        have e : handS (k :: l) x d s = handS l x d s := by
          show (if k.take x = true then _ else handS l x d) s = _
          rw [hb, if_neg Bool.false_ne_true]
        rw [← e]
        exact hm
theorem ds_try {body : List Stmt} {h₀ : ExceptHandler} {hds : List ExceptHandler} {l : List Cla} {mb : MS} {pos : Pos} (hs : X.stack = X.env :: X.outer) (hf : X.env.frame = some X.env.locals) (hN : X.N.Nodup) (tk : Takes X E)
    (hb : ∀ (W : WX) (pn : List (Addr × Obj)) (xe : Value → Shared → Prop), Takes (X.tr pn xe) W → PassesOwn (model X.prog X.w) X.A X.env xe → DSs (X.tr pn xe) ec W ow body mb)
    (hh : ClasOk X ec ow (h₀ :: hds) l) : DS X ec E ow (.Try body (h₀ :: hds) [] [] pos) (tryS mb l) := by
  obtain ⟨cl, c1, c2⟩ := clas_cls (E := E) hh
  refine ⟨_, ps_try_cls (tb := semT X ec ow mb) hs hf hN tk (fun W pn xe t q => ?_) c1, fun c k1 k2 k3 k4 σ H s D0 R hm => ?_⟩
  · obtain ⟨t', h1, h2⟩ := (hb W pn xe t q).run
    refine psS_weak h1 fun D0 σ H ⟨c, s, k1, k2, k3, k4, R, hm⟩ => h2 c k1 k2 k3 k4 σ H s D0 R hm
  · refine ⟨{ c with E := wCls X.K E D0 cl }, s, k1, k2, rfl, k4, R.ent rfl rfl rfl rfl rfl, ?_⟩
    unfold tryS at hm
    cases e : mb s with
    | none => rw [e] at hm; exact hm
    | some p =>
      obtain ⟨fl, s'⟩ := p
      rw [e] at hm
      cases fl with
      | nx => exact fun σ' H' ex R' => hm σ' H' ex (R'.ent rfl rfl rfl rfl rfl)
      | bk => exact fun σ' H' ex R' => hm σ' H' ex (R'.ent rfl rfl rfl rfl rfl)
      | ct => exact fun σ' H' ex R' => hm σ' H' ex (R'.ent rfl rfl rfl rfl rfl)
      | rt r => exact fun v σ' H' ex R' hv => hm v σ' H' ex (R'.ent rfl rfl rfl rfl rfl) hv
      | ex k d => exact fun cls dx σ' H' ex R' he => c2 c D0 k d s' H k1 k2 k3 k4 hm cls dx σ' H' ex (R'.ent rfl rfl rfl rfl rfl) he
end
end Dt

end
section
set_option maxRecDepth 100000
set_option autoImplicit false
/-! What a suite reads off the exception. -/
namespace Dt
open PySem PySem.Spec PyProof.Rows L2
theorem call_isX {X : Cx} {a C : Addr} {oe : Obj} {dx : Option Addr} {pn : List (Addr × Obj)} (T : ExcC X.K C) (hz : Zc (.ref C) dx oe) (hf : ∃ vs, oe.data = .fields vs) :
    CallR (X.suite a ((a, oe) :: pn)) (.builtin "isinstance") (fun xs H Q => ∃ (c : V) (cv : Value) (b : Bool) (dd : Addr) (fs : List (Str × V)), xs = [.ref a, c] ∧ (∀ u, RelV c u → u = cv) ∧ PySem.W.kitOne X.K (.ref C) cv = some b ∧ dx = some dd ∧ H dd = some (.xd fs) ∧ Q (.bl b) H) := by
  intro pins s σ H xs us Q I r h
  obtain ⟨c, cv, b, dd, fs, rfl, hcv, e, ed, ea, q⟩ := h
  obtain ⟨u1, u2, rfl, r1, r2⟩ := vals2 r
  cases (show u1 = Value.ref a from r1)
  have ec := hcv _ r2
  subst ec
  subst ed
  obtain ⟨hget, _⟩ := I.pin (a, oe) (List.mem_append_left _ List.mem_cons_self)
  obtain ⟨vs, hv⟩ := hf
  obtain ⟨mA, hns, hr⟩ := (show ObjOk X.prog X.w H s.heap dd (.xd fs) from I.hok dd _ ea)
  obtain ⟨od, ho, hl⟩ := lookIn_ns hns
  have J : PySem.W.InstAt s.heap a oe C (some od) := ⟨hget, hz.1, by unfold PySem.W.notCls; rw [hv] <;> rfl, by rw [hz.2]; exact ho⟩
  have hcl : (PySem.W.clsIn X.K C).isSome = true := by
    obtain ⟨cd, hc, _⟩ := PySem.W.any_some T.hd
    rw [hc]
    rfl
  exact PySem.W.kia_one (PySem.W.kitx_exc hcl T.hg T.hk T.hs T.ha T.hn T.ht T.hm) I.kIn J e (fun z => nomatch z) fun tk => ⟨.bl b, H, I.tok tk, rfl, q⟩
section
variable {X : Cx} {a C : Addr} {oe : Obj} {dx : Option Addr} {pn : List (Addr × Obj)} {f x n : Str} {i : Nat} {p pos q : Pos}
/-- n.f -/
theorem dx_fld (T : ExF X.K X.mg x C f) (hz : Zc (.ref C) dx oe) (hf : ∃ vs, oe.data = .fields vs) (hN : X.N[i]? = some n) (hv : Vis X.env.scope n) (hd : (n == ("__debug__" : Str)) = false) (hcd : (n == ("__classdict__" : Str)) = false)
    (hb : attributeBase (.Name n p) f X.env (eval (.Name n p) X.env) = eval (.Name n p) X.env) : DX (X.suite a ((a, oe) :: pn)) (some i) a f dx (.Attribute (.Name n p) f pos) (fun d => .val d) := by
  refine ⟨_, pe_xf T.xf T.noF hz hf (pe_var (X := X.suite a ((a, oe) :: pn)) hN hv hd hcd) hb, fun σ H s d Q R kn hq => ?_⟩
  obtain ⟨dd, v, e1, e2, e3⟩ := kn.xd
  exact ⟨.ref a, kn.sl i rfl, rfl, rfl, dd, [(f, v)], v, e1, e2, by simp [List.lookup], hq v H .refl R e3⟩
/-- isinstance(n, T) -/
theorem dx_isi {t : Str} {c : V} {cv : Value} {b : Bool} (T : ExF X.K X.mg x C f) (hz : Zc (.ref C) dx oe) (hf : ∃ vs, oe.data = .fields vs) (hN : X.N[i]? = some n) (hv : Vis X.env.scope n) (hd : (n == ("__debug__" : Str)) = false) (hcd : (n == ("__classdict__" : Str)) = false)
    (hg : Gl X "isinstance") (hm : X.mg "isinstance" = none) (ht : PE (X.suite a ((a, oe) :: pn)) (.Name t q) (tC c)) (hcv : ∀ u, RelV c u → u = cv) (hk : PySem.W.kitOne X.K (.ref C) cv = some b)
    (hs1 : starEach [.Name n p, .Name t q] X.env = (false, eval (.Name n p) X.env) :: starEach [.Name t q] X.env) (hs2 : starEach [.Name t q] X.env = (false, eval (.Name t q) X.env) :: starEach [] X.env) (hpl : (backTo pos (starEach [.Name t q] X.env)).any (·.1) = false) {p2 : Pos} :
    DX (X.suite a ((a, oe) :: pn)) (some i) a f dx (.Call (.Name "isinstance" p2) [.Name n p, .Name t q] [] pos) (fun _ => .val (.bl b)) := by
  refine ⟨_, pe_callB (X := X.suite a ((a, oe) :: pn)) (call_isX T.ic hz hf) hg hm (by decide +kernel) (pa_cons (pe_var (X := X.suite a ((a, oe) :: pn)) hN hv hd hcd) (pa_cons ht pa_nil hs2) hs1) (by decide) (by decide) hs1 hpl, fun σ H s d Q R kn hq => ?_⟩
  obtain ⟨dd, v, e1, e2, e3⟩ := kn.xd
  exact ⟨.ref a, kn.sl i rfl, c, cv, b, dd, [(f, v)], rfl, hcv, hk, e1, e2, hq _ H .refl R rfl⟩
theorem pe_tyName {Y : Cx} {t : Str} {T : String} (hg : Gl Y t) (hm : Y.mg t = none) (hb : bootBuiltins t = some (.type T)) (hn : t ≠ "__name__") (hd : (t == ("__debug__" : Str)) = false) : PE Y (.Name t q) (tC (.ty T)) := pe_bltn (v := .ty T) hg hm hb rfl hn hd
theorem pe_clsName {Y : Cx} {t : Str} {C : Addr} (hg : Gl Y t) (hm : Y.mg t = some (.ref C)) (hd : (t == ("__debug__" : Str)) = false) : PE Y (.Name t q) (tC (.ref C)) := pe_glob hg hm rfl hd
/-- what doesn't ask the exception -/
theorem dx_of {Y : Cx} {nm : Option Nat} {ec : EC} {E : L2.WX} {e : Expr} {m : M RV} {r : RV} (h : DR Y ec E e m) (hr : ∀ s, m s = some (.ok r, s)) : DX Y nm a f dx e (fun _ => r) := by
  obtain ⟨t, h1, h2⟩ := h.run
  refine ⟨t, h1, fun σ H s d Q R kn hq => ?_⟩
  have no : ∀ (j : Nat) (q : RV), (List.replicate s.length (none : Option RV))[j]? ≠ some (some q) := fun j q e => by
    rw [List.getElem?_replicate] at e
    split at e <;> cases e
  have R0 : Rel Y.K σ H (List.replicate s.length none) := ⟨⟨by rw [List.length_replicate]; exact R.len, fun j q e => absurd e (no j q), fun j k q q' b e1 _ _ _ _ _ => absurd e1 (no j q)⟩, R.bnd⟩
  refine h2 σ H _ Q R0 ?_
  rw [hr]
  intro H' ev R' sb g hg
  have ev' : Evo noA H H' := ev.mono fun c ⟨j, q, e, _⟩ => absurd e (no j q)
  exact hq g H' ev' ⟨R.toRel0.evo0 ev', R'.bnd⟩ hg
end
end Dt
namespace Dt
open PySem PySem.Spec PyProof.Rows L2
/-! ### for the printed texts -/
/-- the classes that are raised, their addresses and fields -/
def ecL (l : List (Str × (Addr × Str))) : EC := fun x => l.lookup x
theorem lookup_mem {α : Type} {x : Str} {v : α} : ∀ {l : List (Str × α)}, l.lookup x = some v → (x, v) ∈ l
  | [], h => by cases h
  | (y, u) :: l, h => by
    rw [List.lookup_cons] at h
    split at h
    · rename_i e
      cases h
      rw [beq_iff_eq.mp e]
      exact List.mem_cons_self
    · exact List.mem_cons_of_mem _ (lookup_mem h)
theorem with_tk {X : Cx} {ec : EC} {E : L2.WX} {ow : List Nat} {b : List Stmt} {m : MS} (h : Takes X E → DSs X ec E ow b m) (tk : Takes X E) : DSs X ec E ow b m := h tk
theorem exm1 {K : PySem.W.Frag} {c h1 : Value} {b1 : Bool} (q1 : PySem.W.exmOne K c h1 = some b1) : PySem.W.exmAny K c [h1] = some (b1 || false) := by
  unfold PySem.W.exmAny PySem.W.exmAny
  rw [q1]
theorem exm2 {K : PySem.W.Frag} {c h1 h2 : Value} {b1 b2 : Bool} (q1 : PySem.W.exmOne K c h1 = some b1) (q2 : PySem.W.exmOne K c h2 = some b2) : PySem.W.exmAny K c [h1, h2] = some (b1 || (b2 || false)) := by
  unfold PySem.W.exmAny
  rw [q1, exm1 q2]
theorem exm3 {K : PySem.W.Frag} {c h1 h2 h3 : Value} {b1 b2 b3 : Bool} (q1 : PySem.W.exmOne K c h1 = some b1) (q2 : PySem.W.exmOne K c h2 = some b2) (q3 : PySem.W.exmOne K c h3 = some b3) : PySem.W.exmAny K c [h1, h2, h3] = some (b1 || (b2 || (b3 || false))) := by
  unfold PySem.W.exmAny
  rw [q1, exm2 q2 q3]
theorem kit_own {K : PySem.W.Frag} {C D : Addr} {b : Bool} (hdct : PySem.W.hasDictIn K D = true) (ht : PySem.W.typeIn K (.ref D) = some (.type "type")) (h : PySem.W.subIn K (.ref C) (.ref D) = some b) (hb : C = D → b = true) : PySem.W.kitOne K (.ref C) (.ref D) = some b := by
  obtain ⟨cd, hc, _⟩ := PySem.W.any_some hdct
  show (if (Value.ref C == Value.ref D) = true then some true else (if ((PySem.W.clsIn K D).isSome && PySem.W.typeIn K (.ref D) == some (.type "type")) = true then PySem.W.subIn K (.ref C) (.ref D) else none)) = _
  by_cases e : C = D
  · subst e
    rw [if_pos (beq_self_eq_true _), hb rfl]
  · rw [if_neg (fun z => e (Value.ref.inj (beq_iff_eq.mp z)))]
    have e2 : ((PySem.W.clsIn K D).isSome && PySem.W.typeIn K (.ref D) == some (.type "type")) = true := by rw [hc, ht] <;> rfl
    rw [if_pos e2, h]
theorem kit_ve {K : PySem.W.Frag} {C : Addr} {T : String} {b : Bool} (h : PySem.W.subIn K (.ref C) (.type T) = some b) (hm : PySem.W.kitMeta T = true) : PySem.W.kitOne K (.ref C) (.type T) = some b := by
  have e : ((Value.ref C == Value.type T) = true) = False := by simp
  show (if (Value.ref C == Value.type T) = true then _ else (if PySem.W.kitMeta T = true then PySem.W.subIn K (.ref C) (.type T) else none)) = _
  rw [if_neg (by rw [e]; exact id), if_pos hm]
  exact h
theorem cx_no {P : Program} {w : World} {outer : List Env} {H : Hp} {s : Shared} {e : Value} {s' : Shared} (h : L2.CX P w outer H s (fun _ _ _ => False) e s') : False := by
  obtain ⟨_, _, _, _, _, _, _, _, _, _, _, _, z⟩ := h
  exact z
end Dt

end
section
set_option maxRecDepth 100000
set_option autoImplicit false
/-! list.remove, flat items; the item is there. -/
namespace Dt
open PySem PySem.Spec PyProof.Rows L2
def removeG : D → List D → Option (D × D)
  | .lst ds, [k] => if (flatD k && ds.all flatD) = true then (idxD k ds).map fun i => (.lst (ds.eraseIdx i), .non) else none
  | _, _ => none
theorem AtAll.eraseIdx {K : PySem.W.Frag} {H : Hp} : ∀ {ds : List D} {xs : List V} (i : Nat), AtAll K H ds xs → AtAll K H (ds.eraseIdx i) (xs.eraseIdx i)
  | [], xs, i, h => by rw [h.inv0]; exact .nil
  | d :: ds, xs, 0, h => by
    obtain ⟨x, r, rfl, _, h2⟩ := h.inv
    exact h2
  | d :: ds, xs, i + 1, h => by
    obtain ⟨x, r, rfl, h1, h2⟩ := h.inv
    exact .cons h1 (AtAll.eraseIdx i h2)
theorem mt_removeD {X : Cx} : MtR X "list.remove" (rMut X.K removeG) := by
  intro pins s σ H x vs v us Q I rx rv h
  obtain ⟨a, d, ds, d', r, rfl, ow, hv, hg, hb, q⟩ := h
  unfold removeG at hg
  split at hg
  · rename_i zs k
    split at hg
    · rename_i hf
      obtain ⟨i, h1, h2⟩ := Option.map_eq_some_iff.mp hg
      cases h2
      rw [Bool.and_eq_true] at hf
      obtain ⟨y, ys, rfl, h3, h4⟩ := hv.inv
      rw [h4.inv0] at rv
      obtain ⟨uy, rfl, ry⟩ := vals1 rv
      obtain ⟨xs, hH, g2⟩ := own_lst ow
      cases rx
      obtain ⟨⟨z, j1, j2⟩, j3⟩ := idx_some h1
      obtain ⟨z', i1, i2⟩ := g2.get j1
      have fz := List.all_eq_true.mp hf.2
      have fy := (flat_v hf.1 hf.1 h3 h3).1
      have fxs : xs.all flatV = true := List.all_eq_true.mpr fun w hw => by
        obtain ⟨n, hn, rfl⟩ := List.getElem_of_mem hw
        obtain ⟨e, e1, e2⟩ := g2.get' (List.getElem?_eq_getElem hn)
        exact (flat_v (fz e (List.mem_of_getElem? e1)) hf.1 e2 h3).1
      obtain ⟨sz, its, n, r, hl, e0⟩ := rd_lst I (.inl hH)
      obtain ⟨u, hu, ru⟩ := r.get i1
      obtain ⟨hjl, hje⟩ := List.getElem?_eq_some_iff.mp hu
      have hvl := r.length
      refine call_meets PySem.F.slot_list_remove ⟨_, e0, rfl⟩ PySem.F.entry_list_remove (PySem.F.args_list_remove_2 _ _)
        (SeqAt.list_removeAt a its.toArray n _ _ uy (eqU y) i (by simpa using hjl) ?_ ?_ (by rw [List.size_toArray]; omega)) ⟨e0, fun u' hu' => mem_eqAt ry fy r fxs u' (by simpa using hu'), ?_⟩
      · have e1 : its.toArray[i] = u := by simpa using hje
        rw [e1, eqU_of ru (flat_at fxs i1), (flat_v (fz z (List.mem_of_getElem? j1)) hf.1 i2 h3).2]
        exact j2
      · intro m hm hmj
        have hml : m < its.length := by simpa using hm
        have hmy : m < xs.length := by omega
        have hy' : xs[m]? = some xs[m] := List.getElem?_eq_getElem hmy
        obtain ⟨u2, hu2, ru2⟩ := r.get hy'
        obtain ⟨_, hme⟩ := List.getElem?_eq_some_iff.mp hu2
        have e1 : its.toArray[m] = u2 := by simpa using hme
        obtain ⟨e, q1, q2⟩ := g2.get' hy'
        rw [e1, eqU_of ru2 (flat_at fxs hy'), (flat_v (fz e (List.mem_of_getElem? q1)) hf.1 q2 h3).2]
        exact j3 m e hmj q1
      · have ev := evo_lst (ys := xs.eraseIdx i) hH
        refine ⟨.non, _, I.lset (its' := its.eraseIdx i) hH e0 ?_ (r.eraseIdx i) ?_, rfl, q _ _ ev ⟨_, upd_same, (AtAll.ext ev.ext _ _ g2).eraseIdx i⟩ rfl⟩
        · show its.toArray.eraseIdxIfInBounds i = (its.eraseIdx i).toArray
          rw [List.eraseIdxIfInBounds_toArray]
        · have := List.length_eraseIdx_le xs i
          omega
    · cases hg
  · cases hg
end Dt

end
section
set_option maxRecDepth 100000
set_option autoImplicit false
/-! A tuple in a suite. -/
namespace Dt
open PySem PySem.Spec PyProof.Rows L2
structure DXs (Y : Cx) (nm : Option Nat) (a : Addr) (f : Str) (dx : Option Addr) (es : List Expr) (g : D → List D) : Prop where
  run : ∃ t, PA Y es t ∧ ∀ σ H s d Q, Rel Y.K σ H s → Kn Y.K nm a f dx d σ H → (∀ us H', Evo noA H H' → Rel Y.K σ H' s → AtAll Y.K H' (g d) us → Q us H') → t σ H Q
section
variable {Y : Cx} {nm : Option Nat} {a : Addr} {f : Str} {dx : Option Addr} {e : Expr} {es : List Expr} {h : D → D} {g : D → List D} {pos : Pos} {kk : Nat}
theorem dxs_nil : DXs Y nm a f dx [] (fun _ => []) := ⟨_, pa_nil, fun σ H s d Q R kn hq => hq [] H .refl R .nil⟩
theorem dxs_cons (p : DX Y nm a f dx e (fun d => .val (h d))) (q : DXs Y nm a f dx es g) (hs : starEach (e :: es) Y.env = (false, eval e Y.env) :: starEach es Y.env) : DXs Y nm a f dx (e :: es) (fun d => h d :: g d) := by
  obtain ⟨t, h1, h2⟩ := p.run
  obtain ⟨u, h3, h4⟩ := q.run
  refine ⟨_, pa_cons h1 h3 hs, fun σ H s d Q R kn hq => h2 σ H s d _ R kn fun v H1 e1 R1 hv => h4 σ H1 s d _ R1 (kn.evo e1) fun us H2 e2 R2 hu => hq (v :: us) H2 (e1.trans0 e2) R2 (.cons (At.ext e2.ext _ _ hv) hu)⟩
theorem dx_tup (q : DXs Y nm a f dx es g) (hp : ∀ d, pairsT (g d) = false) (hl : ∀ d, (g d).length ≤ sizeLine) : DX Y nm a f dx (.Tuple es kk pos) (fun d => .val (.tup (g d))) := by
  obtain ⟨t, h1, h2⟩ := q.run
  refine ⟨_, pe_tup h1, fun σ H s d Q R kn hq => h2 σ H s d _ R kn fun us H1 e1 R1 hu => ?_⟩
  refine ⟨by rw [hu.len]; exact hl d, fun p hn => hq _ _ (e1.trans0 (Evo.new hn)) ⟨R1.toRel0.evo0 (Evo.new hn), R1.bnd.newTup hn (by rw [hu.len]; exact hl d)⟩ (new_tup hn hu (hp d))⟩
end
end Dt

end
section
set_option maxRecDepth 100000
set_option autoImplicit false
/-! Dicts whose keys are tuples of tuples of whole numbers. -/
namespace Dt
open PySem PySem.Spec PyProof.Rows L2

mutual
/-- a tree as a nested key -/
def nkOf : D → Option NestedKey
  | .int i => some (.num i)
  | .tup ds => match nksOf ds with
    | some ks => some (.tup ks)
    | none => none
  | _ => none
def nksOf : List D → Option (List NestedKey)
  | [] => some []
  | d :: ds => match nkOf d, nksOf ds with
    | some k, some ks => some (k :: ks)
    | _, _ => none
end
def keyN (d : D) : Option NestedKey := match d with
  | .tup ds => match nkOf (.tup ds) with
    | some k => if k.depth ≤ 8 then some k else none
    | none => none
  | _ => none
def lookN : List (NestedKey × D) → NestedKey → Option D
  | [], _ => none
  | (j, d) :: r, k => if j = k then some d else lookN r k
def putN (kvs : List (NestedKey × D)) (k : NestedKey) (v : D) : List (NestedKey × D) :=
  if (lookN kvs k).isSome = true then kvs.map (fun p => if p.1 = k then (p.1, v) else p) else kvs ++ [(k, v)]
section
variable {K : PySem.W.Frag} {H : Hp}
mutual
theorem nk_at : ∀ (d : D) (v : V) (k : NestedKey), At K H d v → nkOf d = some k → KeyAt K H k v
  | .int i, v, k, h, e => by
    rw [nkOf] at e
    cases e
    unfold KeyAt
    exact h
  | .tup ds, v, k, h, e => by
    rw [nkOf] at e
    unfold At at h
    obtain ⟨a, xs, rfl, h1, h2⟩ := h
    cases en : nksOf ds with
    | none => rw [en] at e; cases e
    | some ks =>
      rw [en] at e
      cases e
      unfold KeyAt
      exact ⟨a, xs, rfl, h1.1, nks_at ds xs ks h2 en⟩
  | .non, _, _, _, e => by simp [nkOf] at e
  | .bl _, _, _, _, e => by simp [nkOf] at e
  | .str _, _, _, _, e => by simp [nkOf] at e
  | .lst _, _, _, _, e => by simp [nkOf] at e
  | .dic _ _, _, _, _, e => by simp [nkOf] at e
  | .scr _, _, _, _, e => by simp [nkOf] at e
  | .nst _, _, _, _, e => by simp [nkOf] at e
  | .exc _ _ _ _, _, _, _, e => by simp [nkOf] at e
theorem nks_at : ∀ (ds : List D) (xs : List V) (ks : List NestedKey), AtAll K H ds xs → nksOf ds = some ks → KeyAlls K H ks xs
  | [], xs, ks, h, e => by
    rw [nksOf] at e
    cases e
    unfold KeyAlls
    exact h.inv0
  | d :: ds, xs, ks, h, e => by
    obtain ⟨x, r, rfl, h1, h2⟩ := h.inv
    rw [nksOf] at e
    cases e1 : nkOf d with
    | none => rw [e1] at e; cases e
    | some k =>
      cases e2 : nksOf ds with
      | none => rw [e1, e2] at e; cases e
      | some ks' =>
        rw [e1, e2] at e
        cases e
        unfold KeyAlls
        exact ⟨x, r, rfl, nk_at d x k h1 e1, nks_at ds r ks' h2 e2⟩
end
theorem keyN_at {d : D} {v : V} {k : NestedKey} (h : At K H d v) (e : keyN d = some k) : ∃ a, v = .ref a ∧ KeyAt K H k v ∧ k.depth ≤ 8 := by
  unfold keyN at e
  split at e
  · rename_i ds
    split at e
    · rename_i k' e1
      split at e
      · rename_i hd
        cases e
        have q := nk_at _ _ _ h e1
        unfold At at h
        obtain ⟨a, xs, rfl, _⟩ := h
        exact ⟨a, rfl, q, hd⟩
      · cases e
    · cases e
  · cases e
mutual
theorem key_hash {w : World} : ∀ (k : NestedKey) (v : V), KeyAt K H k v → k.hash w = hashI k
  | .num i, v, _ => by rw [NestedKey.hash, hashI]
  | .tup ks, v, h => by
    unfold KeyAt at h
    obtain ⟨a, xs, _, _, h2⟩ := h
    rw [NestedKey.hash, hashI, keys_hash ks xs h2]
  | .none, v, h => by unfold KeyAt at h; exact h.elim
  | .text _, v, h => by unfold KeyAt at h; exact h.elim
theorem keys_hash {w : World} : ∀ (ks : List NestedKey) (xs : List V), KeyAlls K H ks xs → NestedKey.hashes w ks = hashIs ks
  | [], xs, _ => by rw [NestedKey.hashes, hashIs]
  | k :: ks, xs, h => by
    unfold KeyAlls at h
    obtain ⟨x, r, rfl, h1, h2⟩ := h
    rw [NestedKey.hashes, hashIs, key_hash k x h1, keys_hash ks r h2]
end
end
section
variable {X : Cx} {pins : List (Addr × Obj)} {σ : Sl} {H : Hp} {s : Shared}
mutual
theorem key_is (I : Inv X pins σ H s) : ∀ (k : NestedKey) (v : V) (u : Value), KeyAt X.K H k v → RelV v u → NestedIs s.heap k u
  | .num i, v, u, h, r => by
    unfold KeyAt at h
    subst h
    obtain ⟨t, rfl⟩ := (show ∃ t, u = Value.int i t from r)
    exact .int i t
  | .tup ks, v, u, h, r => by
    unfold KeyAt at h
    obtain ⟨a, xs, rfl, h1, h2⟩ := h
    cases (show u = Value.ref a from r)
    obtain ⟨its, rv, ⟨o, e1, c1, n, d1⟩, _⟩ := I.tuple h1
    exact .tup e1 c1 d1 (by simpa using keys_are I ks xs its h2 rv)
  | .none, v, u, h, _ => by unfold KeyAt at h; exact h.elim
  | .text _, v, u, h, _ => by unfold KeyAt at h; exact h.elim
theorem keys_are (I : Inv X pins σ H s) : ∀ (ks : List NestedKey) (xs : List V) (us : List Value), KeyAlls X.K H ks xs → Vals xs us → NestedAll s.heap ks us
  | [], xs, us, h, r => by
    unfold KeyAlls at h
    subst h
    cases r
    exact .nil
  | k :: ks, xs, us, h, r => by
    unfold KeyAlls at h
    obtain ⟨x, t, rfl, h1, h2⟩ := h
    cases r with
    | cons r1 r2 => exact .cons (key_is I k x _ h1 r1) (keys_are I ks t _ h2 r2)
end
abbrev PrN (es : List (NestedKey × Addr × V)) (vs : List (NestedKey × Addr × Value)) : Prop := Paired (fun (p : NestedKey × Addr × V) (q : NestedKey × Addr × Value) => p.1 = q.1 ∧ p.2.1 = q.2.1 ∧ RelV p.2.2 q.2.2) es vs
theorem AtN.inv {K : PySem.W.Frag} {k : NestedKey} {d : D} {r : List (NestedKey × D)} {es : List (NestedKey × Addr × V)} (h : AtN K H ((k, d) :: r) es) : ∃ b x r', es = (k, b, x) :: r' ∧ (KeyAt K H k (.ref b) ∧ k.depth ≤ 8) ∧ At K H d x ∧ AtN K H r r' := by
  unfold AtN at h; exact h
theorem AtN.inv0 {K : PySem.W.Frag} {es : List (NestedKey × Addr × V)} (h : AtN K H [] es) : es = [] := by unfold AtN at h; exact h
theorem n_keys {K : PySem.W.Frag} : ∀ {kvs : List (NestedKey × D)} {es : List (NestedKey × Addr × V)} {vs : List (NestedKey × Addr × Value)}, AtN K H kvs es → PrN es vs → ∀ x ∈ vs, KeyAt K H x.1 (.ref x.2.1) ∧ x.1.depth ≤ 8
  | [], es, vs, h, p, x, hx => by
    rw [h.inv0] at p
    cases p
    cases hx
  | (k, d) :: kvs, es, vs, h, p, x, hx => by
    obtain ⟨b, y, r', rfl, h1, h2, h3⟩ := h.inv
    cases p with
    | cons q t =>
      obtain ⟨q1, q2, q3⟩ := q
      rcases List.mem_cons.mp hx with rfl | hx
      · rw [← q1, ← q2]; exact h1
      · exact n_keys h3 t x hx
theorem n_look {K : PySem.W.Frag} (k : NestedKey) : ∀ {kvs : List (NestedKey × D)} {es : List (NestedKey × Addr × V)} {vs : List (NestedKey × Addr × Value)}, AtN K H kvs es → PrN es vs → match lookN kvs k with
    | none => atKey vs k = none
    | some d => ∃ b x u, atKey vs k = some (b, u) ∧ RelV x u ∧ At K H d x
  | [], es, vs, h, p => by
    rw [h.inv0] at p
    cases p
    rfl
  | (j, d) :: kvs, es, vs, h, p => by
    obtain ⟨b, y, r', rfl, h1, h2, h3⟩ := h.inv
    cases p with
    | @cons _ v0 _ vs' q t =>
      obtain ⟨q1, q2, q3⟩ := q
      have ih := n_look k h3 t
      rw [lookN]
      by_cases c : j = k
      · rw [if_pos c]
        obtain ⟨v1, v2, v3⟩ := v0
        refine ⟨v2, y, v3, ?_, q3, h2⟩
        show (((v1, v2, v3) :: vs').find? _).map _ = _
        have q1 : j = v1 := q1
        rw [List.find?_cons_of_pos (by rw [← q1]; exact decide_eq_true c)]
        rfl
      · rw [if_neg c]
        obtain ⟨v1, v2, v3⟩ := v0
        have q1 : j = v1 := q1
        have e : atKey ((v1, v2, v3) :: vs') k = atKey vs' k := by
          show (((v1, v2, v3) :: vs').find? _).map _ = _
          rw [List.find?_cons_of_neg (by rw [← q1]; simpa using c)]
          rfl
        rw [e]
        exact ih
theorem lookN_some {K : PySem.W.Frag} {k : NestedKey} {kvs : List (NestedKey × D)} {es : List (NestedKey × Addr × V)} {vs : List (NestedKey × Addr × Value)} (h : AtN K H kvs es) (p : PrN es vs) : (atKey vs k).isSome = (lookN kvs k).isSome := by
  have := n_look k h p
  cases e : lookN kvs k with
  | none => rw [e] at this; rw [show atKey vs k = none from this]; rfl
  | some d => rw [e] at this; obtain ⟨b, x, u, q, _⟩ := this; rw [q]; rfl
theorem n_rd (I : Inv X pins σ H s) {a : Addr} {kvs : List (NestedKey × D)} {es : List (NestedKey × Addr × V)} (h : Rd H a (NRaw a es)) (q : AtN X.K H kvs es) :
    (a == sysModules) = false ∧ ∃ vs, PrN es vs ∧ s.heap.DictOfH (nestedKind X.prog X.w) a vs := by
  obtain ⟨⟨hd, vs, pr, o, ar, ep, e1, e2, e3, e4, nd⟩, _⟩ := (show ObjOk X.prog X.w H s.heap a (NRaw a es) from h.ok I.hok)
  have ks := n_keys q pr
  refine ⟨hd, vs, pr, o, ar, ep, e1, e2, e3, ?_, fun x hx => ⟨key_is I _ _ _ (ks x hx).1 rfl, (ks x hx).2⟩, nd⟩
  rw [e4]
  refine List.map_congr_left fun x hx => ?_
  unfold entryOfKey
  rw [← key_hash (w := X.w) x.1 _ (ks x hx).1]
  rfl
/-- the object behind d[k] = v -/
def putE (es : List (NestedKey × Addr × V)) (has : Bool) (k : NestedKey) (b : Addr) (v : V) : List (NestedKey × Addr × V) :=
  if has = true then es.map (fun e => if e.1 = k then (e.1, e.2.1, v) else e) else es ++ [(k, b, v)]
theorem n_mapAt {K : PySem.W.Frag} {k : NestedKey} {d : D} {v : V} (hv : At K H d v) : ∀ {kvs : List (NestedKey × D)} {es : List (NestedKey × Addr × V)}, AtN K H kvs es → AtN K H (kvs.map (fun p => if p.1 = k then (p.1, d) else p)) (es.map (fun e => if e.1 = k then (e.1, e.2.1, v) else e))
  | [], es, h => by rw [h.inv0]; unfold AtN; rfl
  | (j, e) :: kvs, es, h => by
    obtain ⟨b, y, r', rfl, h1, h2, h3⟩ := h.inv
    have ih := n_mapAt (k := k) hv h3
    rw [List.map_cons, List.map_cons]
    by_cases c : j = k
    · rw [if_pos c, if_pos c]
      unfold AtN
      exact ⟨b, v, _, rfl, h1, hv, ih⟩
    · rw [if_neg c, if_neg c]
      unfold AtN
      exact ⟨b, y, _, rfl, h1, h2, ih⟩
theorem n_app {K : PySem.W.Frag} {k : NestedKey} {d : D} {v : V} {b : Addr} (hk : KeyAt K H k (.ref b) ∧ k.depth ≤ 8) (hv : At K H d v) : ∀ {kvs : List (NestedKey × D)} {es : List (NestedKey × Addr × V)}, AtN K H kvs es → AtN K H (kvs ++ [(k, d)]) (es ++ [(k, b, v)])
  | [], es, h => by
    rw [h.inv0]
    show AtN K H [(k, d)] [(k, b, v)]
    unfold AtN
    exact ⟨b, v, [], rfl, hk, hv, by unfold AtN; rfl⟩
  | (j, e) :: kvs, es, h => by
    obtain ⟨b', y, r', rfl, h1, h2, h3⟩ := h.inv
    show AtN K H ((j, e) :: (kvs ++ [(k, d)])) ((j, b', y) :: (r' ++ [(k, b, v)]))
    unfold AtN
    exact ⟨b', y, _, rfl, h1, h2, n_app hk hv h3⟩
theorem n_put {K : PySem.W.Frag} {k : NestedKey} {d : D} {v : V} {b : Addr} (hk : KeyAt K H k (.ref b) ∧ k.depth ≤ 8) (hv : At K H d v) {kvs : List (NestedKey × D)} {es : List (NestedKey × Addr × V)} (h : AtN K H kvs es) : AtN K H (putN kvs k d) (putE es (lookN kvs k).isSome k b v) := by
  unfold putN putE
  cases c : (lookN kvs k).isSome with
  | true => rw [if_pos rfl, if_pos rfl]; exact n_mapAt hv h
  | false => rw [if_neg (by decide), if_neg (by decide)]; exact n_app hk hv h
theorem pr_map {k : NestedKey} {v : V} {u : Value} (r : RelV v u) : ∀ {es : List (NestedKey × Addr × V)} {vs : List (NestedKey × Addr × Value)}, PrN es vs → PrN (es.map (fun e => if e.1 = k then (e.1, e.2.1, v) else e)) (vs.map (putAt k u))
  | _, _, .nil => .nil
  | (e :: es), (q :: vs), .cons p t => by
    obtain ⟨p1, p2, p3⟩ := p
    refine .cons ?_ (pr_map r t)
    unfold putAt
    dsimp only
    by_cases c : e.1 = k
    · rw [if_pos c, if_pos (p1 ▸ c)]
      exact ⟨p1, p2, r⟩
    · rw [if_neg c, if_neg (fun z => c (p1.trans z))]
      exact ⟨p1, p2, p3⟩
theorem pr_app {k : NestedKey} {b : Addr} {v : V} {u : Value} (r : RelV v u) : ∀ {es : List (NestedKey × Addr × V)} {vs : List (NestedKey × Addr × Value)}, PrN es vs → PrN (es ++ [(k, b, v)]) (vs ++ [(k, b, u)])
  | _, _, .nil => .cons ⟨rfl, rfl, r⟩ .nil
  | _, _, .cons p t => .cons p (pr_app r t)
theorem pr_put {k : NestedKey} {b : Addr} {v : V} {u : Value} {c : Bool} (r : RelV v u) {es : List (NestedKey × Addr × V)} {vs : List (NestedKey × Addr × Value)} (p : PrN es vs) (hc : (atKey vs k).isSome = c) : PrN (putE es c k b v) (storedH vs k b u) := by
  unfold putE storedH
  rw [hc]
  cases c with
  | true => rw [if_pos rfl, if_pos rfl]; exact pr_map r p
  | false => rw [if_neg (by decide), if_neg (by decide)]; exact pr_app r p
theorem raw_of {h' : Heap} {a : Addr} {kvs : List (NestedKey × D)} {es : List (NestedKey × Addr × V)} {vs : List (NestedKey × Addr × Value)} {H' : Hp} (hd : (a == sysModules) = false) (q : AtN X.K H kvs es) (p : PrN es vs) (dd : h'.DictOfH (nestedKind X.prog X.w) a vs) : ObjOk X.prog X.w H' h' a (NRaw a es) := by
  obtain ⟨o, ar, ep, e1, e2, e3, e4, _, nd⟩ := dd
  have ks := n_keys q p
  refine ⟨⟨hd, vs, p, o, ar, ep, e1, e2, e3, ?_, nd⟩, ⟨o, e1⟩, fun h1 h2 φ st => ?_⟩
  · rw [e4]
    refine List.map_congr_left fun x hx => ?_
    unfold entryOfKey
    rw [← key_hash (w := X.w) x.1 _ (ks x hx).1]
    rfl
  · obtain ⟨hd, vs, p, o, ar, ep, e1, r⟩ := φ
    exact ⟨hd, vs, p, o, ar, ep, st o e1, r⟩
theorem n_room {A : Around} (hu : A.units + 64 < cLine) : (nestedKind X.prog X.w).room A.in1 := by
  show A.units + 1 + 8 < cLine
  omega

/-! ### d[k], k in d -/
def itemN : D → D → Option D
  | .nst kvs, k => (keyN k).bind fun κ => lookN kvs κ
  | _, _ => none
def inN (k d : D) : Option D := match d with
  | .nst kvs => (keyN k).map fun κ => .bl (lookN kvs κ).isSome
  | _ => none
def notinN (k d : D) : Option D := match d with
  | .nst kvs => (keyN k).map fun κ => .bl (!(lookN kvs κ).isSome)
  | _ => none
theorem keyN_ct {K : PySem.W.Frag} {d : D} {v : V} {k : NestedKey} (h : Ct K H v d) (e : keyN d = some k) : ∃ a, v = .ref a ∧ KeyAt K H k v ∧ k.depth ≤ 8 := by
  cases d with
  | tup ds => exact keyN_at h.tupAt e
  | _ => cases e
theorem op_inN (hu : X.A.units + 64 < cLine) : OpR X (compareOp .In) (rV2 X.K inN) := by
  intro pins s σ H x y v u Q I rx ry h
  obtain ⟨d, e, r, hd, he, hg, hb, q⟩ := h
  unfold inN at hg
  split at hg
  · rename_i kvs
    obtain ⟨k, h1, h2⟩ := Option.map_eq_some_iff.mp hg
    subst h2
    obtain ⟨a, es, rfl, h3, h4⟩ := he.nst
    obtain ⟨b, rfl, h5, h6⟩ := keyN_ct hd h1
    cases (show v = Value.ref b from rx)
    cases (show u = Value.ref a from ry)
    obtain ⟨hs, vs, pr, dd⟩ := n_rd I h3 h4
    refine wpAny_in_heap (knd := nestedKind X.prog X.w) (n_room hu) ⟨key_is I _ _ _ h5 rfl, h6⟩ hs dd ?_
    rw [lookN_some h4 pr]
    exact ⟨.bl _, H, I.tok _, rfl, q _ _ .self rfl⟩
  · cases hg
theorem op_notinN (hu : X.A.units + 64 < cLine) : OpR X (compareOp .NotIn) (rV2 X.K notinN) := by
  intro pins s σ H x y v u Q I rx ry h
  obtain ⟨d, e, r, hd, he, hg, hb, q⟩ := h
  unfold notinN at hg
  split at hg
  · rename_i kvs
    obtain ⟨k, h1, h2⟩ := Option.map_eq_some_iff.mp hg
    subst h2
    obtain ⟨a, es, rfl, h3, h4⟩ := he.nst
    obtain ⟨b, rfl, h5, h6⟩ := keyN_ct hd h1
    cases (show v = Value.ref b from rx)
    cases (show u = Value.ref a from ry)
    obtain ⟨hs, vs, pr, dd⟩ := n_rd I h3 h4
    refine wpAny_notIn_heap (knd := nestedKind X.prog X.w) (n_room hu) ⟨key_is I _ _ _ h5 rfl, h6⟩ hs dd ?_
    rw [lookN_some h4 pr]
    exact ⟨.bl _, H, I.tok _, rfl, q _ _ .self rfl⟩
  · cases hg
theorem ix_itemN (hu : X.A.units + 64 < cLine) : IxR X (rV2 X.K itemN) := by
  intro value slice pins s σ H x y v u Q I rx ry h hs
  obtain ⟨d, e, r, hd, he, hg, hb, q⟩ := h
  unfold itemN at hg
  split at hg
  · rename_i kvs k0
    obtain ⟨k, h1, h2⟩ := Option.bind_eq_some_iff.mp hg
    obtain ⟨a, es, rfl, h3, h4⟩ := hd.nst
    obtain ⟨b, rfl, h5, h6⟩ := keyN_ct he h1
    cases (show v = Value.ref a from rx)
    cases (show u = Value.ref b from ry)
    obtain ⟨hsy, vs, pr, dd⟩ := n_rd I h3 h4
    have lo := n_look k h4 pr
    rw [h2] at lo
    obtain ⟨b', x', u', l1, l2, l3⟩ := lo
    have hT : s.TypeIs (.ref a) "dict" := dd.typeIs
    unfold subscriptTail
    refine wpAny_bind ?_
    rw [getitemInPython_of_ne hT.not_modules]
    refine wpAny_bind (wpAny_specialOf hT PySem.F.slot_dict_getitem.lookup ?_)
    have fin : wpAny (model X.prog X.w) X.A (subscripted slice false (.ref a) (.ref b)) (fun r s₃ => wpAny (model X.prog X.w) X.A (letTemporaryGo value (.ref a) r >>= fun _ => pure r) (EP X pins σ Q) X.xe s₃) X.xe s := by
      rw [hs]
      refine wpAny_operating (wpAny_mono (wpAny_getItem_heap (knd := nestedKind X.prog X.w) (Q := fun w' s' => EP X pins σ Q w' s') (n_room hu) ⟨key_is I _ _ _ h5 rfl, h6⟩ dd l1 ?_) (fun r s₃ h₃ => wpAny_bind (wpAny_letTemporaryGo (wpAny_pure h₃))) fun _ _ x => x)
      exact ⟨x', H, I.tok _, l2, q _ _ .self l3⟩
    first
      | exact wpAny_pure (wpAny_bind fin)
      | exact wpAny_bind (wpAny_pure (wpAny_bind fin))
      | exact wpAny_bind fin
  · cases hg
end
section
variable {X : Cx} {ec : EC} {E : L2.WX} {a b : Expr} {pos : Pos}
theorem dv_ixN {oa ob : Opd} (hu : X.A.units + 64 < cLine) (ha : DO X ec E a oa) (hb : DO X ec E b ob) (hs : PlainIx b) : DV X ec E (.Subscript a b pos) (binV itemN oa ob) := by
  obtain ⟨ta, tb, h1, h2, h3⟩ := two (γ := V) (β := D) ha hb
  exact DV.mk0 (pe_ix (ix_itemN hu) h1 h2 hs) (h3 (fun d e => lift (itemN d e)) (RVal X.K) (fun x y H Q => rV2 X.K itemN x y H Q) fun σ H0 H s x y d e Q hR hb cd ce hf hk => v2_use hR hb cd ce hk)
end

/-! ### d[k] = v -/
def setN : D → D → D → Option D
  | .nst kvs, k, v => if kvs.length < 1000000 then (keyN k).map fun κ => .nst (putN kvs κ v) else none
  | _, _, _ => none
def rSetN (K : PySem.W.Frag) : TSet := fun o i v H Q => ∃ a d di dv d', o = .ref a ∧ OwnAt K H a d ∧ At K H di i ∧ At K H dv v ∧ setN d di dv = some d' ∧ Bounded K H ∧ ∀ H', Evo (fun c => c = a) H H' → OwnAt K H' a d' → Q H'
theorem AtN.len {K : PySem.W.Frag} {H : Hp} : ∀ {kvs : List (NestedKey × D)} {es : List (NestedKey × Addr × V)}, AtN K H kvs es → es.length = kvs.length
  | [], es, h => by rw [h.inv0]; rfl
  | (k, d) :: kvs, es, h => by
    obtain ⟨b, y, r', rfl, _, _, h3⟩ := h.inv
    rw [List.length_cons, List.length_cons, h3.len]
theorem set_ownN {X : Cx} (hu : X.A.units + 64 < cLine) : PSet X (rSetN X.K) := by
  intro pins s σ H o i v ov iv u Q I ro ri rv h
  obtain ⟨a, d, di, dv, d', rfl, ow, hi, hv, hg, hb, q⟩ := h
  unfold setN at hg
  split at hg
  · rename_i kvs
    split at hg
    · rename_i hl
      obtain ⟨k, h1, h2⟩ := Option.map_eq_some_iff.mp hg
      subst h2
      obtain ⟨es, h3, h4⟩ := (show ∃ es : List (NestedKey × Addr × V), H a = some (NRaw a es) ∧ AtN X.K H kvs es from ow)
      obtain ⟨b, rfl, h5, h6⟩ := keyN_at hi h1
      cases (show ov = Value.ref a from ro)
      cases (show iv = Value.ref b from ri)
      obtain ⟨hs, vs, pr, dd⟩ := n_rd I (.inl h3) h4
      have hz : vs.length ≤ sizeLine := by rw [← Paired.length pr, h4.len, sizeLine_eq]; omega
      refine wpAny_setItem_heap (knd := nestedKind X.prog X.w) (hsz := hz) (n_room hu) ⟨key_is I _ _ _ h5 rfl, h6⟩ dd fun h' dd' hsb => ?_
      have pr' := pr_put (k := k) (b := b) rv pr (lookN_some h4 pr)
      have q4 := n_put (b := b) ⟨h5, h6⟩ hv h4
      have he : ∃ q, h'.get? a = some q := let ⟨q, _, _, hq, _⟩ := dd'; ⟨q, hq⟩
      have ev : Evo (fun c => c = a) H (upd H a (NRaw a (putE es (lookN kvs k).isSome k b v))) := .write h3 trivial rfl
      exact ⟨_, d_write I (by rw [h3]; exact True.intro) hsb he (raw_of hs q4 pr' dd'), q _ ev ⟨_, upd_same, AtN.ext ev.ext _ _ q4⟩⟩
    · cases hg
  · cases hg
def storeNE (i : Nat) (v k : D) : MS := fun s => match s[i]? with
  | some (some (.own d)) => match setN d k v with
    | some d' => some (.nx, s.set i (some (.own d')))
    | none => none
  | _ => none
def storeNS (i : Nat) (mv mk : M D) : MS := bndS mv fun v => bndS (hasSlot i) fun _ => bndS mk fun k => storeNE i v k
section
variable {X : Cx} {ec : EC} {E : L2.WX} {o e : Expr}
theorem ds_storeN {i : Nat} {ow : List Nat} {mv mk : M D} {k c : Expr} {spos pos : Pos} (hu : X.A.units + 64 < cLine) (hv : DV X ec E e mv) (ho : PE X o (tVar i)) (hk : DV X ec E k mk)
    (ha : ∀ v, assign (.Subscript o k spos) X.env v = (do
      let ov ← holding [v] (eval o X.env)
      let iv ← holding [v, ov] (eval k X.env)
      standAt spos
      holding [v, ov, iv] (setItem ov iv v)
      release [v, ov, iv] []))
    (hs : swapsWithSole [.Subscript o k spos] e pos.line X.env = pure false) (hw : swappedStores [.Subscript o k spos] e X.env = pure none) (hz : (assignEach [.Subscript o k spos] X.env).map (·.2) = [assign (.Subscript o k spos) X.env]) :
    DS X ec E ow (.Assign [.Subscript o k spos] e pos) (storeNS i mv mk) := by
  obtain ⟨tv, h1, h2⟩ := hv.run
  obtain ⟨tk, h3, h4⟩ := hk.run
  have ho2 : ∀ ec E, Comes X.K ec E (RPend X.K (.slot i)) (hasSlot i) (tVar i) := fun ec E σ H s Q hR hm => by
    unfold hasSlot at hm
    cases q : s[i]? with
    | none => rw [q] at hm; exact hm.elim
    | some o =>
      rw [q] at hm
      cases o with
      | none => exact hm.elim
      | some r =>
        obtain ⟨v, h1, h2⟩ := hR.ok i r q
        exact ⟨v, h1, hm H .refl hR (Sub.refl _) v h1⟩
  refine ⟨_, ps_bnd (ps_asg h1 (pg_sub ho h3 (set_ownN hu) ha) hs hw hz), fun c k1 k2 k3 k4 σ H s D0 R hm => ?_⟩
  have h2' : Comes c.K c.ec c.E (RVal c.K) mv tv := by rw [k1, k2, k3]; exact h2
  have h4' : Comes c.K c.ec c.E (RVal c.K) mk tk := by rw [k1, k2, k3]; exact h4
  have ho' : Comes c.K c.ec c.E (RPend c.K (.slot i)) (hasSlot i) (tVar i) := by rw [k1]; exact ho2 _ _
  refine useE (k := fun v => bndS (hasSlot i) fun _ => bndS mk fun k => storeNE i v k) h2' R hm fun dv s1 H1 v ev1 sb1 R1 hv hk1 => ?_
  show tVar i σ H1 (fun o H1 => tk σ H1 fun i H2 => rSetN X.K o i v H2 fun H3 => Bounded X.K H3 → D0.nx σ H3)
  refine useE (k := fun _ => bndS mk fun k => storeNE i dv k) ho' R1 hk1 fun _ s2 H2 x ev2 sb2 R2 hx hk2 => ?_
  refine useE (k := fun k => storeNE i dv k) h4' R2 hk2 fun dk s3 H3 y ev3 sb3 R3 hy hk3 => ?_
  have hx : σ[i]? = some (some x) := hx
  unfold storeNE at hk3
  cases q : s3[i]? with
  | none => rw [q] at hk3; exact hk3.elim
  | some o =>
    rw [q] at hk3
    cases o with
    | none => exact hk3.elim
    | some r =>
      cases r with
      | val d => exact hk3.elim
      | own d =>
        dsimp only at hk3
        cases q2 : setN d dk dv with
        | none => rw [q2] at hk3; exact hk3.elim
        | some d' =>
          rw [q2] at hk3
          obtain ⟨w, a1, a2⟩ := R3.ok i _ q
          rw [hx] at a1
          cases a1
          obtain ⟨a, rfl, ow'⟩ := a2
          have hv' : At c.K H3 dv v := At.ext (ev2.ext.trans ev3.ext) _ _ hv
          rw [k1] at ow' hv' hy
          have b3 : Bounded X.K H3 := by rw [← k1]; exact R3.bnd
          refine ⟨a, d, dk, dv, d', rfl, ow', hy, hv', q2, b3, fun H' ev od hb => ?_⟩
          have hi : i ∉ c.ow ∨ i ∈ c.ow := by by_cases z : i ∈ c.ow <;> simp [z]
          have od' : OwnAt c.K H' a d' := by rw [k1]; exact od
          have hb' : Bounded c.K H' := by rw [k1]; exact hb
          have R0 := R3.toRel0.put (r' := .own d') ev q rfl hx ⟨a, rfl, od'⟩
          exact hk3 σ H' ev.ext (R3.step (ev.mono fun c z => ⟨i, _, q, rfl, by rw [z]; exact hx⟩) ⟨R0, hb'⟩ (Sub.put q rfl))
end

/-! ### {k: v} -/
theorem Bounded.newN {K : PySem.W.Frag} {H : Hp} {p : Addr} {es : List (NestedKey × Addr × V)} (b : Bounded K H) (hp : H p = none) : Bounded K (upd H p (NRaw p es)) := by
  have rd : ∀ {a : Addr} {u : HO}, u ≠ NRaw p es → Rd (upd H p (NRaw p es)) a u → Rd H a u := fun {a u} hu h => by
    rcases h with h | ⟨o, h⟩
    · by_cases z : a = p
      · rw [z, upd_same] at h
        exact absurd (Option.some.inj h).symm hu
      · rw [upd_ne z] at h
        exact .inl h
    · by_cases z : a = p
      · rw [z, upd_same] at h
        cases h
      · rw [upd_ne z] at h
        exact .inr ⟨o, h⟩
  refine ⟨fun a xs h => b.seq a xs ?_, fun a es h => b.dK a es (rd (by intro z; cases z) h), fun a es h => b.dT a es (rd (by intro z; cases z) h)⟩
  rcases h with (h | h) | (h | h)
  · exact .inl (.inl (rd (by intro z; cases z) h))
  · exact .inl (.inr h)
  · exact .inr (.inl (rd (by intro z; cases z) h))
  · exact .inr (.inr h)
section
variable {X : Cx} {ec : EC} {E : L2.WX} {k v : Expr} {pos : Pos}
theorem n_empty {P : Program} {w : World} {H : Hp} (h : Heap) (hb : sysModules < h.objs.size) : ObjOk P w H (h.push { cls := .type "dict", data := .dict #[] }) h.objs.size (NRaw h.objs.size []) := by
  refine ⟨⟨beq_eq_false_iff_ne.mpr (Ne.symm (Nat.ne_of_lt hb)), [], .nil, _, #[], 0, Heap.get?_push_size _ rfl, ⟨rfl, rfl, rfl⟩, rfl, rfl, List.nodup_nil⟩, ⟨_, Heap.get?_push_size _ rfl⟩, fun h1 h2 φ st => ?_⟩
  obtain ⟨hd, vs, p, o, ar, ep, e1, r⟩ := φ
  exact ⟨hd, vs, p, o, ar, ep, st o e1, r⟩
def tDispN (K : PySem.W.Frag) (tk tv : TE) : TE := fun σ H Q => ∀ p, H p = none → tk σ (upd H p (NRaw p [])) fun x H1 => tv σ H1 fun y H2 => H2 p = some (NRaw p []) ∧ ∃ (b : Addr) (κ : NestedKey), x = .ref b ∧ (KeyAt K H2 κ (.ref b) ∧ κ.depth ≤ 8) ∧ (∃ d, At K H2 d y) ∧ Q (.ref p) (upd H2 p (NRaw p [(κ, b, y)]))
theorem pe_dispN {tk tv : TE} (hu : X.A.units + 64 < cLine) (hk : PE X k tk) (hv : PE X v tv) : PE X (.Dict [some k] [v] pos) (tDispN X.K tk tv) := by
  refine ⟨fun pins s σ H Q I q => ?_⟩
  have hn := I.hok.fresh (Nat.le_refl s.heap.objs.size)
  have I1 := I.laid (a := s.heap.objs.size) (o := NRaw s.heap.objs.size []) (h' := s.heap.push { cls := .type "dict", data := .dict #[] }) (t' := s.toks) (fun _ _ q => Heap.get?_push_of_some _ q) (Nat.le_refl _) (n_empty s.heap I.big)
  have hz := zip_pairTrees [some k] [v] X.env pos rfl rfl
  rw [arm_eval_Dict, hz, dictDisplay_pairs (pairTrees [some k] [v] X.env pos) (by simp [pairTrees]) (by simp [pairTrees])]
  refine wpAny_bind (wpAny_standAt (wpAny_bind (wpAny_subDictH (knd := nestedKind X.prog X.w) (Q := fun d s' => wpAny (model X.prog X.w) X.A (pure (Value.ref d)) _ _ s') (show X.A.units + 8 < cLine by omega) (by simp [pairTrees]) ?_)))
  refine pairTrees_cons_walk (thn (hk.run pins _ σ _ _ I1 (q _ hn)) fun u s1 ⟨x, H1, I2, rx, q1⟩ => thn (hv.run pins s1 σ H1 _ I2 q1) fun w2 s2 ⟨y, H2, I3, ry, hp, b, κ, ex, eb, ⟨d, ed⟩, q2⟩ => pairTrees_nil_walk ?_)
  subst ex
  cases (show u = Value.ref b from rx)
  have a0 : AtN X.K H2 [] [] := by unfold AtN; rfl
  obtain ⟨hd, xs, rel, dd⟩ := n_rd I3 (.inl hp) a0
  have ex : xs = [] := by cases rel; rfl
  subst ex
  refine ⟨[(κ, b, w2)], ⟨rfl, rfl, ⟨key_is I3 _ _ _ eb.1 rfl, eb.2⟩, trivial⟩, dd, fun h' tk dd' hs => wpAny_pure ?_⟩
  have he : ∃ q, h'.get? s.heap.objs.size = some q := let ⟨q, _, _, hq, _⟩ := dd'; ⟨q, hq⟩
  refine ⟨.ref s.heap.objs.size, _, ?_, rfl, q2⟩
  have q4 : AtN X.K H2 [(κ, d)] [(κ, b, y)] := by
    unfold AtN
    exact ⟨b, y, [], rfl, eb, ed, a0⟩
  exact d_write I3 (by rw [hp]; exact True.intro) hs he (raw_of hd q4 (.cons ⟨rfl, rfl, ry⟩ .nil) dd')
def dispN1 (mk mv : M D) : M RV := bnd mk fun k => bnd mv fun v => lift ((keyN k).map fun κ => .own (.nst [(κ, v)]))
theorem dr_dispN1 {mk mv : M D} (hu : X.A.units + 64 < cLine) (hk : DV X ec E k mk) (hv : DV X ec E v mv) : DR X ec E (.Dict [some k] [v] pos) (dispN1 mk mv) := by
  obtain ⟨t, h1, h2⟩ := hk.run
  obtain ⟨u, h3, h4⟩ := hv.run
  refine DR.mk0 (pe_dispN hu h1 h3) fun σ H s Q hR hm => ?_
  intro p hp
  have e0 : Evo (OwnsA σ s) H (upd H p (NRaw p [])) := .new hp
  have un : ¬ OwnsA σ s p := hR.toRel0.unowned hp
  have R0 : Rel X.K σ (upd H p (NRaw p [])) s := ⟨hR.toRel0.evo (A := noA) (.new hp) fun _ _ z => z, hR.bnd.newN hp⟩
  refine h2 σ (upd H p (NRaw p [])) s _ R0 ?_
  unfold dispN1 bnd at hm
  revert hm
  cases em : mk s with
  | none => exact fun hm => hm.elim
  | some q =>
    obtain ⟨q, s1⟩ := q
    cases q with
    | err c d => exact fun hm cl dx H' a b c' q => hm cl dx H' (e0.trans a fun _ z => .inl z) b c' q
    | ok dk =>
      intro hm H1 ev R1 S1 x hx
      dsimp only at hm
      refine h4 σ H1 s1 _ R1 ?_
      revert hm
      cases em2 : mv s1 with
      | none => exact fun hm => hm.elim
      | some q =>
        obtain ⟨q, s2⟩ := q
        cases q with
        | err c d => exact fun hm cl dx H' a b c' q => hm cl dx H' ((e0.trans ev fun _ z => .inl z).trans a fun _ z => .inl (S1.owns z)) b (S1.trans c') q
        | ok dv =>
          intro hm H2 ev2 R2 S2 y hy
          have hm : Post0 X.K ec E σ H s _ (lift ((keyN dk).map fun κ => RV.own (.nst [(κ, dv)])) s2) := hm
          have hH2 : H2 p = some (NRaw p []) := ev2.keep p _ (ev.keep p _ upd_same un) fun z => un (S1.owns z)
          cases ek : keyN dk with
          | none => rw [ek] at hm; exact hm.elim
          | some κ =>
            rw [ek] at hm
            have hx : At X.K H2 dk x := At.ext ev2.ext _ _ hx
            obtain ⟨b, rfl, h7⟩ := keyN_at hx ek
            refine ⟨hH2, b, κ, rfl, h7, ⟨dv, hy⟩, ?_⟩
            have ew : Evo (fun c => c = p) H2 (upd H2 p (NRaw p [(κ, b, y)])) := .write hH2 trivial rfl
            refine hm (upd H2 p (NRaw p [(κ, b, y)])) (((e0.trans ev fun _ z => .inl z).trans ev2 fun _ z => .inl (S1.owns z)).trans ew fun c z => .inr (by rw [z]; exact hp)) (R2.toRel0.evo ew fun a o z => un (S1.owns (S2.owns (by rw [← z]; exact o)))) (S1.trans S2) (.ref p) ⟨p, rfl, hp, _, upd_same, ?_⟩
            unfold AtN
            exact ⟨b, y, [], rfl, ⟨KeyAt.ext ew.ext _ _ h7.1, h7.2⟩, At.ext ew.ext _ _ hy, by unfold AtN; rfl⟩
end
end Dt

end
section
set_option maxRecDepth 100000
set_option autoImplicit false
/-! a, b = x, y: two names at once, no tuple is made. -/
namespace Dt
open PySem PySem.Spec PyProof.Rows L2
def parS (i j : Nat) (ms : M (List D)) : MS := bndS ms fun ds => match ds with
  | [d, e] => fun s => if i < s.length ∧ j < s.length then some (.nx, (s.set i (some (.val d))).set j (some (.val e))) else none
  | _ => fun _ => none
theorem stored_set {K : PySem.W.Frag} {σ : Sl} {H : Hp} {s : DSt} {v : V} {d : D} {i : Nat} (R : Rel K σ H s) (hv : At K H d v) (q : i < s.length) : Stored K [i] σ (σ.set i (some v)) H s (s.set i (some (.val d))) := by
  refine ⟨R.setV hv, List.length_set, fun j hj => ?_, fun j hj => ?_, fun j r hj h o => ?_⟩
  · rw [List.getElem?_set_ne (fun z => hj (by simp [z]))]
  · rw [List.getElem?_set_ne (fun z => hj (by simp [z]))]
  · have e : j = i := by simpa using hj
    subst e
    rw [List.getElem?_set_self q] at h
    cases h
    cases o
section
variable {X : Cx} {ec : EC} {E : L2.WX}
theorem ds_par {i j : Nat} {ow : List Nat} {x y : Str} {a b : Expr} {ms : M (List D)} {px py pt pos : Pos} {kt k2 : Nat} {pt2 : Pos} (hc : X.calm = true) (hN : X.N.Nodup) (hi : X.N[i]? = some x) (hj : X.N[j]? = some y) (hij : i ≠ j)
    (hx : X.env.scope.names.lookup x = some .local) (hy : X.env.scope.names.lookup y = some .local) (h : DA X ec E [a, b] ms) (oi : i ∉ ow) (oj : j ∉ ow)
    (hw : swappedStores [.Tuple [.Name x px, .Name y py] kt pt] (.Tuple [a, b] k2 pt2) X.env = pure (some [x, y]))
    (hs : swapsWithSole [.Tuple [.Name x px, .Name y py] kt pt] (.Tuple [a, b] k2 pt2) pos.line X.env = pure false) :
    DS X ec E ow (.Assign [.Tuple [.Name x px, .Name y py] kt pt] (.Tuple [a, b] k2 pt2) pos) (parS i j ms) := by
  obtain ⟨t, h1, h2⟩ := h.run
  refine ⟨_, ps_par hc hN hi hj hij hx hy h1 hw hs, fun c k1 k2 k3 k4 σ H s D0 R hm => ?_⟩
  have h2' : Comes c.K c.ec c.E (RAll c.K) ms t := by rw [k1, k2, k3]; exact h2
  refine useE (k := fun ds => match ds with
    | [d, e] => fun s => if i < s.length ∧ j < s.length then some (.nx, (s.set i (some (.val d))).set j (some (.val e))) else none
    | _ => fun _ => none) h2' R hm fun ds s' H' vs ev sb R' hv hk => ?_
  have hv : AtAll c.K H' ds vs := hv
  match ds, hv, hk with
  | [d, e], hv, hk =>
    obtain ⟨v, r, rfl, a1, a2⟩ := hv.inv
    obtain ⟨w, r', rfl, b1, b2⟩ := a2.inv
    rw [b2.inv0]
    refine ⟨v, w, rfl, ?_⟩
    dsimp only at hk
    by_cases q : i < s'.length ∧ j < s'.length
    · rw [if_pos q] at hk
      have S1 := stored_set R'.toRel a1 q.1
      have R1 := R'.stored S1 (by intro z hz; rw [List.mem_singleton.mp hz, k4]; exact oi)
      have S2 := stored_set R1.toRel b1 (by rw [List.length_set]; exact q.2)
      exact hk _ H' (Ext.refl _) (R1.stored S2 (by intro z hz; rw [List.mem_singleton.mp hz, k4]; exact oj))
    · rw [if_neg q] at hk
      exact hk.elim
  | [], hv, hk => exact hk.elim
  | [_], hv, hk => exact hk.elim
  | _ :: _ :: _ :: _, hv, hk => exact hk.elim
end
end Dt

end
section
set_option maxRecDepth 100000
set_option autoImplicit false
/-! range(a, b, -1) walked. -/
namespace Dt
open PySem PySem.Spec PyProof.Rows L2
def rangeN (lo : Int) : Nat → List D
  | 0 => []
  | n + 1 => .int lo :: rangeN (lo - 1) n
theorem rangeN_len : ∀ (n : Nat) (lo : Int), (rangeN lo n).length = n
  | 0, _ => rfl
  | n + 1, lo => by simp [rangeN, rangeN_len n]
theorem rangeN_get : ∀ (n : Nat) (lo : Int) (i : Nat), i < n → (rangeN lo n)[i]? = some (.int (lo - i))
  | 0, _, _, h => absurd h (Nat.not_lt_zero _)
  | n + 1, lo, 0, _ => by simp [rangeN]
  | n + 1, lo, i + 1, h => by
    have := rangeN_get n (lo - 1) i (by omega)
    simp only [rangeN, List.getElem?_cons_succ, this]
    congr 2
    omega
theorem Walks.rangeC {K : PySem.W.Frag} {H : Hp} {lo : Int} {n : Nat} (hl : n ≤ sizeLine) : Walks K (Itc lo (-1) n) (rangeN lo n) H where
  go := fun i H1 e hi => by rw [rangeN_len] at hi; exact hi
  yld := fun i H1 x H2 e ⟨e2, hx⟩ => by
    subst e2 hx
    refine ⟨.refl, fun z => z, fun d hd => ?_⟩
    have hi : i < n := by
      have := (List.getElem?_eq_some_iff.mp hd).1
      rw [rangeN_len] at this
      exact this
    rw [rangeN_get n lo i hi] at hd
    cases hd
    have e : lo + (i : Nat) * (-1 : Int) = lo - (i : Nat) := by omega
    rw [e]
    rfl
  stop := fun H1 e => by show n ≤ _; rw [rangeN_len]; exact Nat.le_refl _
  line := by rw [rangeN_len]; exact hl
def rng3 : List D → Option (List D)
  | [.int i, .int j, .int c] => if c = -1 ∧ -(2 ^ 60) ≤ i ∧ i < 2 ^ 60 ∧ -(2 ^ 60) ≤ j ∧ j < 2 ^ 60 ∧ i - j ≤ 1000000 then some (rangeN i (i - j).toNat) else none
  | _ => none
section
variable {X : Cx} {ec : EC} {E : L2.WX} {tg a b c : Expr}
theorem di_range3 {os : List Opd} {p pos : Pos} (hg : Gl X "range") (hm : X.mg "range" = none) (ha : DOs X ec E [a, b, c] os)
    (hs : starEach [a, b, c] X.env = (false, eval a X.env) :: starEach [b, c] X.env) (hpl : (backTo pos (starEach [b, c] X.env)).any (·.1) = false) : DI X ec E tg (.Call (.Name "range" p) [a, b, c] [] pos) (callI rng3 os) := by
  obtain ⟨t, h1, h2⟩ := ha.run
  refine DI.mk0 (pi_range3 hg hm h1 hs hpl) fun σ H s Q hR hm => ?_
  refine h2 σ H s _ hR (hm.bnd.imp fun xs s1 H1 _ e1 R1 S1 hk vs hvs => ?_)
  obtain ⟨cs, cd, hk⟩ := hk.reads R1.toRel0 hvs
  obtain ⟨r, hr, hk2⟩ := hk.lift
  clear hk
  unfold rng3 at hr
  split at hr
  · split at hr
    · rename_i i j c q
      cases hr
      obtain ⟨v, w, x, rfl, cv, cw, cx⟩ := ctAll3 cd
      cases cv.int
      cases cw.int
      cases cx.int
      obtain ⟨rfl, q1, q2, q3, q4, q5⟩ := q
      exact ⟨i, j, -1, (i - j).toNat, rfl, RgC.neg (by omega) (by omega) (by omega) (by omega), hk2 H1 .refl R1.toRel0 _ (.rangeC (by rw [sizeLine_eq]; omega))⟩
    · cases hr
  · cases hr
end
end Dt

end
section
set_option maxRecDepth 100000
set_option autoImplicit false
/-! xs.index(x), items of any depth. -/
namespace Dt
open PySem PySem.Spec PyProof.Rows L2
def indexN : D → List D → Option D
  | .lst ds, [k] => if inOk k ds = true then (idxD k ds).map fun i => .int ((i : Nat) : Int) else none
  | _, _ => none
section
variable {X : Cx}
theorem mt_indexN (hu : X.A.units + 64 < cLine) : MtR X "list.index" (rRead X.K indexN) := by
  intro pins s σ H x vs v us Q I rx rv h
  obtain ⟨d, ds, r, cd, hv, hg, hb, q⟩ := h
  unfold indexN at hg
  split at hg
  · rename_i zs k
    split at hg
    · rename_i hf
      obtain ⟨i, h1, h2⟩ := Option.map_eq_some_iff.mp hg
      subst h2
      obtain ⟨n1, n2, n3⟩ := inOk_inv hf
      obtain ⟨y, ys, rfl, h3, h4⟩ := hv.inv
      rw [h4.inv0] at rv
      obtain ⟨a, xs, rfl, g1, g2⟩ := cd.lst
      cases rx
      cases rv with
      | cons ry rt =>
        rename_i uy ut
        cases rt
        obtain ⟨its, rvs, ⟨⟨cls, dd, data, sl⟩, n, ho, hc, hdn, hd⟩, hlen⟩ := I.list (.inl g1)
        simp only at hc hd
        subst hc hd
        obtain ⟨⟨z, j1, j2⟩, j3⟩ := idx_some h1
        obtain ⟨z', i1, i2⟩ := g2.get j1
        obtain ⟨u, hu1, ru⟩ := rvs.get i1
        obtain ⟨hjl, hje⟩ := List.getElem?_eq_some_iff.mp hu1
        have hvl := rvs.length
        have hj : i < its.toArray.size := by simpa using hjl
        have hsl := sizeLine_eq
        have nz : ∀ (m : Nat) (w : D), zs[m]? = some w → noDic w = true := fun m w hw => noDics_mem n2 (List.mem_of_getElem? hw)
        refine call_meets PySem.F.slot_list_index ⟨_, ho, rfl⟩ PySem.F.entry_list_index (PySem.F.args_list_index_2 _ _)
          (SeqAt.list_indexAt a its.toArray n dd sl uy (fun u => eqvD (datOf X H u) k) i hj (by omega) ?_ ?_) ⟨ho, fun u' hu' => mem_dat (A := X.A.in1) I h3.ct ry n1 (by show X.A.units + 1 + _ < _; omega) g2 rvs n2 u' (by simpa using hu'), ?_⟩
        · have e1 : its.toArray[i] = u := by simpa using hje
          rw [e1, datOf_eq I ru i2 (nz _ _ j1)]
          exact j2
        · intro m hm hmj
          have hml : m < its.length := by simpa using hm
          have e1 : its.toArray[m] = its[m] := by simp
          have hmx : m < xs.length := by omega
          obtain ⟨e, e2, e3⟩ := g2.get' (List.getElem?_eq_getElem hmx)
          obtain ⟨u2, hu2, ru2⟩ := rvs.get (List.getElem?_eq_getElem hmx)
          obtain ⟨_, hme⟩ := List.getElem?_eq_some_iff.mp hu2
          rw [e1, hme, datOf_eq I ru2 e3 (nz _ _ e2)]
          exact j3 m e hmj e2
        · exact ⟨.int i, H, I.tok _, ⟨_, rfl⟩, q _ _ .self rfl⟩
    · cases hg
  · cases hg
end
end Dt

end
section
set_option maxRecDepth 100000
set_option autoImplicit false
/-! range(a, b) walked, ends of any size. -/
namespace Dt
open PySem PySem.Spec PyProof.Rows L2
theorem turn_long {P : Program} {w : World} {K : PySem.W.Frag} {tg : Expr} (it : Addr) (lo c : Int) (n : Nat) : Turn P w K tg (Itc lo c n) [it] it (fun i h => IsLongIter h it (lo + (i : Nat) * c) ((n : Int) - (i : Nat)) c) where
  mem := by simp
  obj := fun i h st b hb => by
    have e : b = it := by simpa using hb
    subst e
    exact ⟨_, st, fun v z => nomatch z⟩
  keep := fun i h h' st k => k it (by simp) _ st
  item := by
    intro X hP hw hK hc i pins s σ H E I hf st hg
    subst hP hw hK
    obtain ⟨f0, f1, f2, f3, f4, f5⟩ := hf it (by simp)
    have W := PySem.Walks.longrange (prog := X.prog) (w := X.w) (I.ok.hd hc) it lo c n
    refine W.item i s _ _ hg st fun v h' tk hv st' kk => ?_
    obtain ⟨t, rfl⟩ := hv
    have I1 : Inv X pins σ H { s with heap := h', toks := tk } := I.turned (fun b o hb e => kk b o (by simpa using hb) e) f0 f1 f3 f4 f5
    exact ⟨_, rfl, go_of (s := { s with heap := h', toks := tk }) (n := "longrange_iterator") st' rfl rfl (by decide) ⟨.int (lo + (i : Nat) * c), H, I1, ⟨t, rfl⟩, ⟨rfl, rfl⟩, st', fun b hb => (hf b hb).1⟩⟩
  done := by
    intro X hP hw hK hc i pins s σ H E I hf st hg
    subst hP hw hK
    obtain ⟨f0, f1, f2, f3, f4, f5⟩ := hf it (by simp)
    exact wpAny_pyNext_long_end (I.ok.hd hc) st (by have : n ≤ i := hg; omega) fun h' eb => ⟨rfl, I.turned (t' := s.toks) (fun b o hb e => eb b o (by simpa using hb) e) f0 f1 f3 f4 f5⟩
  self := fun A i s Q E st h => wpAny_pyIter_longiter st h
def iRngL (ta : TA) : TI := fun σ H R => ta σ H fun vs H1 => ∃ i j : Int, vs = [.int i, .int j] ∧ R (Itc i 1 (j - i).toNat) H1
section
variable {X : Cx} {tg : Expr}
theorem pi_range2L {a b : Expr} {ta : TA} {p pos : Pos} (hg : Gl X "range") (hm : X.mg "range" = none) (ha : PA X [a, b] ta) (hs : starEach [a, b] X.env = [(false, eval a X.env), (false, eval b X.env)]) (hs2 : starEach [b] X.env = [(false, eval b X.env)]) :
    PI X tg (.Call (.Name "range" p) [a, b] [] pos) (iRngL ta) := by
  refine ⟨fun pins s σ H R I h => ?_⟩
  refine Call_ (ld_blt I hg hm boot_range (PyProof.Rows.callWith_type1 (thn (ha.run pos pins s σ H _ I h) fun us s1 ⟨vs, H1, I1, r1, q1⟩ => ?_) (by rw [hs, hs2]) (by rw [hs2]; rfl)))
  obtain ⟨i, j, e, q⟩ := q1
  subst e
  cases r1 with
  | cons r rr =>
    cases rr with
    | cons r' rr =>
      cases rr
      obtain ⟨t, rfl⟩ := r
      obtain ⟨t', rfl⟩ := r'
      refine call_range_2 ?_
      have I2 : Inv X pins σ H1 { s1 with heap := s1.heap.push { cls := .type "range", data := .fields #[.int i t, .int j t', .int 1 s1.toks] }, toks := s1.toks + 1 } := I1.kept (t' := s1.toks + 1) fun b o e => Heap.get?_push_of_some _ e
      have e1 : i + ((0 : Nat) : Int) * 1 = i := by simp
      have e2 : (((j - i).toNat : Nat) : Int) - ((0 : Nat) : Int) = Builtin.Range.rangeSize i j 1 := by rw [rangeSize_one]; split <;> omega
      by_cases hsm : Builtin.Range.small i j 1 = true
      · refine wpAny_pyIter_range (IsRange.new ..) hsm ?_
        refine pi_one (tk := s1.toks + 1) I2 _ (turn_rangeC _ i 1 (j - i).toNat) ?_ q
        show IsRangeIter _ _ (i + ((0 : Nat) : Int) * 1) ((((j - i).toNat : Nat) : Int) - ((0 : Nat) : Int)) 1
        rw [e1, e2]
        exact Heap.get?_push_size _ rfl
      · refine wpAny_pyIter_longrange (IsRange.new ..) (by simpa using hsm) ?_
        refine pi_one (tk := s1.toks + 1) I2 _ (turn_long _ i 1 (j - i).toNat) ?_ q
        show IsLongIter _ _ (i + ((0 : Nat) : Int) * 1) ((((j - i).toNat : Nat) : Int) - ((0 : Nat) : Int)) 1
        rw [e1, e2]
        exact Heap.get?_push_size _ rfl
end
theorem Walks.rangeL {K : PySem.W.Frag} {H : Hp} {lo : Int} {n : Nat} (hl : n ≤ sizeLine) : Walks K (Itc lo 1 n) (rangeD lo n) H where
  go := fun i H1 e hi => by rw [rangeD_len] at hi; exact hi
  yld := fun i H1 x H2 e ⟨e2, hx⟩ => by
    subst e2 hx
    refine ⟨.refl, fun z => z, fun d hd => ?_⟩
    have hi : i < n := by
      have := (List.getElem?_eq_some_iff.mp hd).1
      rw [rangeD_len] at this
      exact this
    rw [rangeD_get n lo i hi] at hd
    cases hd
    have e : lo + (i : Nat) * (1 : Int) = lo + (i : Nat) := by omega
    rw [e]
    rfl
  stop := fun H1 e => by show n ≤ _; rw [rangeD_len]; exact Nat.le_refl _
  line := by rw [rangeD_len]; exact hl
def rngL : List D → Option (List D)
  | [.int i, .int j] => if j - i ≤ 1000000 then some (rangeD i (j - i).toNat) else none
  | _ => none
section
variable {X : Cx} {ec : EC} {E : L2.WX} {tg a b : Expr}
theorem di_rangeL {os : List Opd} {p pos : Pos} (hg : Gl X "range") (hm : X.mg "range" = none) (ha : DOs X ec E [a, b] os) (hs : starEach [a, b] X.env = [(false, eval a X.env), (false, eval b X.env)]) (hs2 : starEach [b] X.env = [(false, eval b X.env)]) : DI X ec E tg (.Call (.Name "range" p) [a, b] [] pos) (callI rngL os) := by
  obtain ⟨t, h1, h2⟩ := ha.run
  refine DI.mk0 (pi_range2L hg hm h1 hs hs2) fun σ H s Q hR hm => ?_
  refine h2 σ H s _ hR (hm.bnd.imp fun xs s1 H1 _ e1 R1 S1 hk vs hvs => ?_)
  obtain ⟨cs, cd, hk⟩ := hk.reads R1.toRel0 hvs
  obtain ⟨r, hr, hk2⟩ := hk.lift
  clear hk
  unfold rngL at hr
  split at hr
  · split at hr
    · rename_i i j q
      cases hr
      obtain ⟨v, w, rfl, cv, cw⟩ := ctAll2 cd
      cases cv.int
      cases cw.int
      exact ⟨i, j, rfl, hk2 H1 .refl R1.toRel0 _ (.rangeL (by rw [sizeLine_eq]; omega))⟩
    · cases hr
  · cases hr
end
end Dt

end
section
set_option maxRecDepth 100000
set_option autoImplicit false
set_option maxHeartbeats 4000000
/-! sorted(set(x)), x a list of texts. -/
namespace Dt
open PySem PySem.Spec PyProof.Rows L2
def keyS (e : Int × Value) : Str := match e.2 with | .str k _ => k | _ => Str.empty
def GoodT (w : World) (e : Int × Value) : Prop := ∃ k tk, e.2 = Value.str k tk ∧ e.1 = hashStr w k
/-- the set of texts at a; its table rises and can be walked -/
def SetT (w : World) (h : Heap) (a : Addr) (S : Str → Prop) : Prop :=
  ∃ o es ep t, h.get? a = some o ∧ o.ExactSet ∧ o.data = .set es ep t ∧ (∀ e ∈ es.toList, GoodT w e) ∧ (es.toList.map keyS).Nodup ∧ (∀ k, S k ↔ k ∈ es.toList.map keyS) ∧
    es.size < scanBound ∧ t.fits es.size = true ∧ Ris t.place.toList ∧ (w.params.followText "set-order" = true ∨ t.led = true)
theorem is_strT {P : Program} {w : World} (k : Str) (u : Tok) : (PySem.strKind P w).is k (.str k u) = true := by
  show Value.isStrOf k (.str k u) = true
  simp [Value.isStrOf]
section
variable {P : Program} {w : World} {h h' : Heap} {a : Addr} {S : Str → Prop}
theorem SetT.at (R : SetT w h a S) (k : ∀ o, h.get? a = some o → h'.get? a = some o) : SetT w h' a S := by
  obtain ⟨o, es, ep, t, ho, r⟩ := R
  exact ⟨o, es, ep, t, k o ho, r⟩
theorem SetT.congr {S' : Str → Prop} (R : SetT w h a S) (e : ∀ k, S' k ↔ S k) : SetT w h a S' := by
  have q : S' = S := funext fun k => propext (e k)
  rw [q]; exact R
theorem goodT_elems {l : List (Int × Value)} (g : ∀ e ∈ l, GoodT w e) : ElemsOf (PySem.strKind P w) l := fun e he => by
  obtain ⟨k, tk, h1, h2⟩ := g e he
  exact ⟨⟨k, by rw [h1]; exact is_strT k tk, h2⟩, by rw [h1] <;> rfl⟩
theorem goodT_is {e : Int × Value} (g : GoodT w e) (k : Str) : (PySem.strKind P w).is k e.2 = true ↔ keyS e = k := by
  obtain ⟨k0, tk, h1, _⟩ := g
  unfold keyS
  rw [h1]
  refine ⟨fun z => ?_, fun z => by rw [← z]; exact is_strT k0 tk⟩
  exact (PySem.strKind P w).inj (.str k0 tk) k0 k (is_strT k0 tk) z
theorem goodT_mem {l : List (Int × Value)} (g : ∀ e ∈ l, GoodT w e) (k : Str) : k ∈ l.map keyS ↔ ∃ e ∈ l, (PySem.strKind P w).is k e.2 = true := by
  rw [List.mem_map]
  constructor
  · rintro ⟨e, he, q⟩
    exact ⟨e, he, (goodT_is (g e he) k).2 q⟩
  · rintro ⟨e, he, q⟩
    exact ⟨e, he, (goodT_is (g e he) k).1 q⟩
end
theorem sub_len : ∀ {l m : List Str}, l.Nodup → (∀ x ∈ l, x ∈ m) → l.length ≤ m.length
  | [], m, _, _ => Nat.zero_le _
  | a :: l, m, h, s => by
    obtain ⟨h1, h2⟩ := List.nodup_cons.mp h
    have ha := s a List.mem_cons_self
    have i := sub_len (l := l) (m := m.erase a) h2 fun x hx => (List.mem_erase_of_ne (fun e => by rw [e] at hx; exact h1 hx)).mpr (s x (List.mem_cons_of_mem _ hx))
    rw [List.length_erase_of_mem ha] at i
    have := List.length_pos_of_mem ha
    rw [List.length_cons]
    omega
section
variable {P : Program} {w : World} {A : Around} {E : Value → Shared → Prop} {s : Shared} {a : Addr} {S : Str → Prop}
theorem setT_add_tail {g : Bool → Sem Unit} (hg : ∀ (b : Bool) (s₁ : Shared) (Q' : Unit → Shared → Prop), Q' () s₁ → wpAny (model P w) A (g b) Q' E s₁)
    {o : Obj} {es : Array (Int × Value)} {ep : Nat} {t : SetTable} (ho : s.heap.get? a = some o) (hex : o.ExactSet) (hd : o.data = .set es ep t)
    {es1 : Array (Int × Value)} {t2 : SetTable} {S' : Str → Prop} (g1 : ∀ e ∈ es1.toList, GoodT w e) (nd1 : (es1.toList.map keyS).Nodup) (m1 : ∀ k, S' k ↔ k ∈ es1.toList.map keyS)
    (hb1 : es1.size < scanBound) (hf2 : t2.fits es1.size = true) (hr : Ris t2.place.toList) (hl : w.params.followText "set-order" = true ∨ t2.led = true) {wasDummy : Bool} {R : Option Bool → Shared → Prop}
    (hR : ∀ h', Heap.SameBut a s.heap h' → SetT w h' a S' → R (some true) { s with heap := h' }) :
    wpAny (model P w) A (do
        storeSet a es1 t2
        if (!wasDummy && t2.tooFull) = true then do
            g (relayAll t2 es1 (SetTable.grown es1.size)).2.2
            storeSet a (relayAll t2 es1 (SetTable.grown es1.size)).1 (relayAll t2 es1 (SetTable.grown es1.size)).2.1
            pure (some true)
          else pure (some true)) R E s := by
  refine wpAny_bind (wpAny_storeSet_of ho hd ?_ (fits_of_scanBound hb1))
  have ho1 := store_at (es' := es1) (t' := t2) ho hd
  have sb1 := Heap.SameBut.update s.heap a (Obj.putSet es1 t2)
  split
  · have pm := relayAll_perm t2 es1 (SetTable.grown es1.size)
    have hf3 := relayAll_fits t2 es1 (SetTable.grown es1.size)
    have hr3 := relayAll_ris t2 es1 (SetTable.grown es1.size)
    have hl3 := relayAll_led t2 es1 (SetTable.grown es1.size)
    generalize relayAll t2 es1 (SetTable.grown es1.size) = Z at pm hf3 hr3 hl3 ⊢
    obtain ⟨es2, t3, gave⟩ := Z
    dsimp only at pm hf3 hr3 hl3 ⊢
    have hsz : es2.size = es1.size := by rw [← Array.length_toList, pm.length_eq, Array.length_toList]
    have hb2 : es2.size < scanBound := by rw [hsz]; exact hb1
    refine wpAny_bind (hg _ _ _ ?_)
    refine wpAny_bind (wpAny_storeSet_of ho1 rfl ?_ (fits_of_scanBound hb2))
    have ho2 := store_at (es' := es2) (t' := t3) ho1 rfl
    refine wpAny_pure (hR _ (sb1.trans (Heap.SameBut.update _ a _)) ?_)
    exact ⟨_, es2, _, t3, ho2, hex, rfl, fun e he => g1 e (pm.mem_iff.mp he), (pm.map keyS).nodup_iff.mpr nd1, fun k => (m1 k).trans (pm.map keyS).mem_iff.symm, hb2, hf3, hr3,
      hl.imp id fun z => by rw [hl3]; exact z⟩
  · exact wpAny_pure (hR _ sb1 ⟨_, es1, _, t2, ho1, hex, rfl, g1, nd1, m1, hb1, hf2, hr, hl⟩)
theorem setT_add_hashed {k : Str} {tk : Tok} {l : List Str} {Q : Bool → Shared → Prop} (R : SetT w s.heap a (· ∈ l)) (room : ∀ m : List Str, m.Nodup → (∀ x ∈ m, x ∈ l ++ [k]) → m.length < scanBound)
    (hQ : ∀ h' b, Heap.SameBut a s.heap h' → SetT w h' a (· ∈ l ++ [k]) → Q b { s with heap := h' }) :
    wpAny (model P w) A (setAddHashed a (.str k tk) ((PySem.strKind P w).hash k)) Q E s := by
  obtain ⟨o, es, ep, t, ho, hex, hd, g, nd, hm, hb, hf, hr, hl⟩ := R
  have hm : ∀ k, k ∈ l ↔ k ∈ es.toList.map keyS := hm
  have hkey : (PySem.strKind P w).is k (.str k tk) = true := is_strT k tk
  have hsc : (Value.str k tk).scannable = true := rfl
  have hel : ElemsOf (PySem.strKind P w) es.toList := goodT_elems g
  unfold setAddHashed setAddHashedIn
  refine wpAny_holding (wpAny_bind (wpAny_setState_of ho hd hf ?_))
  dsimp only
  rw [byScan_of hsc hb hel]
  simp only [↓reduceIte]
  unfold setAddByScan
  refine wpAny_bind ?_
  refine wpAny_bind (wpAny_rule ?_)
  refine wpAny_bind (wpAny_setScan_of hkey ho hd hf hel ?_)
  cases hfi : List.findIdx? (fun e => (PySem.strKind P w).is k e.2) es.toList with
  | some j =>
    dsimp only
    obtain ⟨hj, pj, _⟩ := List.findIdx?_eq_some_iff_getElem.mp hfi
    have hSk : k ∈ l := (hm k).2 ((goodT_mem (P := P) (w := w) g k).2 ⟨es.toList[j], List.getElem_mem hj, pj⟩)
    refine wpAny_pure (wpAny_pure ?_)
    exact hQ s.heap false (Heap.SameBut.refl a s.heap) ⟨o, es, ep, t, ho, hex, hd, g, nd, fun i => by
      show (i ∈ l ++ [k]) ↔ _
      rw [List.mem_append, List.mem_singleton, ← hm i]
      exact ⟨fun z => z.elim id (fun e => e ▸ hSk), .inl⟩, hb, hf, hr, hl⟩
  | none =>
    dsimp only
    have hnk : k ∉ es.toList.map keyS := fun z => by
      obtain ⟨e, he, q⟩ := (goodT_mem (P := P) (w := w) g k).1 z
      have c := List.findIdx?_eq_none_iff.mp hfi e he
      rw [q] at c
      cases c
    have hgw : ∀ (b : Bool) {s₁ : Shared} {Q' : Unit → Shared → Prop}, Q' () s₁ → wpAny (model P w) A (match b with | true => rule "set.scan.the-table-gave-way" | false => pure ()) Q' E s₁ :=
      fun b s₁ Q' q => by cases b <;> first | exact wpAny_pure q | exact wpAny_rule q
    have pm := layNew_perm t es ((PySem.strKind P w).hash k) (.str k tk)
    have hf1 := layNew_fits t es ((PySem.strKind P w).hash k) (.str k tk)
    have hr1 := layNew_ris t es ((PySem.strKind P w).hash k) (.str k tk) hr
    have hl1 := layNew_led t es ((PySem.strKind P w).hash k) (.str k tk)
    generalize layNew t es ((PySem.strKind P w).hash k) (.str k tk) = Z at pm hf1 hr1 hl1 ⊢
    obtain ⟨es1, t1, wasDummy, gave⟩ := Z
    dsimp only at pm hf1 hr1 hl1 ⊢
    rw [Array.toList_push] at pm
    have pc : es1.toList.Perm (((PySem.strKind P w).hash k, Value.str k tk) :: es.toList) := pm.trans (List.perm_append_singleton _ _)
    have pk : (es1.toList.map keyS).Perm (k :: es.toList.map keyS) := pc.map keyS
    have g1 : ∀ e ∈ es1.toList, GoodT w e := fun e he => by
      rcases List.mem_cons.mp (pc.mem_iff.mp he) with z | z
      · rw [z]; exact ⟨k, tk, rfl, rfl⟩
      · exact g e z
    have nd1 : (es1.toList.map keyS).Nodup := pk.nodup_iff.mpr (List.nodup_cons.mpr ⟨hnk, nd⟩)
    have m1 : ∀ i, i ∈ l ++ [k] ↔ i ∈ es1.toList.map keyS := fun i => by
      rw [List.mem_append, List.mem_singleton, hm i, pk.mem_iff, List.mem_cons]
      exact Or.comm
    have hb1 : es1.size < scanBound := by
      have := room _ nd1 fun x hx => (m1 x).mpr hx
      rwa [List.length_map, Array.length_toList] at this
    have hled : w.params.followText "set-order" = true ∨ t1.led = true := hl.imp id fun z => by rw [hl1]; exact z
    refine wpAny_bind (hgw _ ?_)
    split
    · refine wpAny_bind ?_
      rw [hashByValue_scannable 8 hsc]
      refine wpAny_pure ?_
      refine setT_add_tail ?_ ho hex hd g1 nd1 m1 hb1 ?_ ?_ ?_ ?_
      · intro b s₁ Q' q; cases b <;> first | exact wpAny_pure q | exact wpAny_rule q
      · first | (split <;> first | exact hf1 | exact SetTable.fits_plain_off hf1) | exact hf1
      · first | (split <;> exact hr1) | exact hr1
      · first | (split <;> exact hled) | exact hled
      · intro h' sb r; dsimp only; exact wpAny_pure (hQ h' true sb r)
    · refine wpAny_bind (wpAny_pure ?_)
      simp only [↓reduceIte]
      refine setT_add_tail ?_ ho hex hd g1 nd1 m1 hb1 hf1 hr1 hled ?_
      · intro b s₁ Q' q; cases b <;> first | exact wpAny_pure q | exact wpAny_rule q
      · intro h' sb r; dsimp only; exact wpAny_pure (hQ h' true sb r)

theorem setT_new_at {w : World} {h : Heap} {a : Addr} {ns : List Str} (ho : h.get? a = some { cls := .type "set", dict := none, data := .set #[] 0 (.fresh 0 0 (!w.params.followText "set-order")) }) : SetT w h a (· ∈ ns.take 0) :=
  ⟨_, #[], 0, _, ho, ⟨rfl, rfl, rfl⟩, rfl, (fun e he => by simp at he), (by simp), (fun k => by simp), (by decide), (by rfl), List.Pairwise.nil, by
    show _ ∨ (!w.params.followText "set-order") = true
    cases w.params.followText "set-order"
    · exact .inr rfl
    · exact .inl rfl⟩
theorem set_update_txts {I : Addr} {fp wr : List Addr} {G : Array GenState → Array GenState → Prop} {n : Nat} {Pv : Nat → Value → Prop} {St : Nat → Shared → Prop} {R : Result → Shared → Prop}
    (W : WalksS P w A.in1 I fp wr G n Pv St) (S : Addr) (hSf : S ∉ fp) (ns : List Str) (hn : n = ns.length) (hb : ∀ m : List Str, m.Nodup → (∀ x ∈ m, x ∈ ns) → m.length < scanBound) (hval : ∀ i v, Pv i v → ∃ k t, ns[i]? = some k ∧ v = .str k t) :
    ∀ (k i : Nat) (s : Shared), n - i = k → i ≤ n → St i s → SetT w s.heap S (· ∈ ns.take i) →
      (∀ s', Moved (S :: wr) G s s' → SetT w s'.heap S (· ∈ ns) → R (.ok (.ret .none)) s') →
      codeAny (model P w) A (.builtin "set.update.loop" ⟨[.ref S, .ref I], []⟩) R s := by
  have hSw : S ∉ wr := fun h => hSf (W.sub _ h)
  have hsub : ∀ b ∈ wr, b ∈ S :: wr := fun b hb => List.mem_cons_of_mem _ hb
  intro k
  induction k with
  | zero =>
    intro i s hk' hi hst hS hR
    have hin : i = n := by omega
    subst hin
    refine codeAny_builtin F.entry_set_update_loop ?_
    rw [Around.under_plainId F.plain_set_update_loop _]
    show wpAny _ A.in1 (pyNext (.ref I) >>= _) _ _ s
    refine wpAny_bind (W.done s _ _ hst fun s' hm => ?_)
    show wpAny _ A.in1 (PySem.ret Value.none) _ _ s'
    have e : ns.take i = ns := List.take_of_length_le (by omega)
    rw [e] at hS
    exact wpAny_pure (hR s' (hm.mono hsub) (hS.at fun o e => hm.heap S o hSw e))
  | succ k ih =>
    intro i s hk' hi hst hS hR
    have hlt : i < n := by omega
    refine codeAny_builtin F.entry_set_update_loop ?_
    rw [Around.under_plainId F.plain_set_update_loop _]
    show wpAny _ A.in1 (pyNext (.ref I) >>= _) _ _ s
    refine wpAny_bind (W.item i s _ _ hlt hst fun v s' hP hst' hm => ?_)
    obtain ⟨z, t, hz, rfl⟩ := hval i v hP
    have hS' : SetT w s'.heap S (· ∈ ns.take i) := hS.at fun o e => hm.heap S o hSw e
    show wpAny _ A.in1 (holding [Value.str z t] (setAdd S (.str z t)) >>= _) _ _ s'
    refine wpAny_bind (wpAny_holding ?_)
    unfold setAdd
    refine wpAny_holding ?_
    refine wpAny_bind ((PySem.strKind P w).pyHash (k := z) (is_strT _ _) ?_)
    refine setT_add_hashed (s := { s' with toks := s'.toks + 1 }) hS' (fun m hm hx => hb m hm fun x h => by
      rcases List.mem_append.mp (hx x h) with q | q
      · exact List.mem_of_mem_take q
      · rw [List.mem_singleton.mp q]; exact List.mem_of_getElem? hz) fun h' b0 hsb hS2 => ?_
    have hS3 : SetT w h' S (· ∈ ns.take (i + 1)) := by
      rw [List.take_add_one, hz]
      exact hS2
    refine wpAny_pure ⟨plainId_quiet F.plain_set_update_loop _, ih (i + 1) _ (by omega) hlt (W.frame _ s' _ _ hst' (Nat.le_succ _) fun b hb o e => ?_) hS3 fun s'' hm'' hS'' => ?_⟩
    · rw [hsb.2 b (fun h : b = S => hSf (by rw [← h]; exact hb))]; exact e
    · refine hR s'' (Moved.trans W.gtrans ((hm.mono hsub).then_heap (Nat.le_succ _) fun b o hb e => ?_) hm'') hS''
      rw [hsb.2 b (fun h : b = S => hb (by rw [h]; exact List.mem_cons_self))]; exact e
set_option maxRecDepth 100000 in
set_option maxHeartbeats 6400000 in
theorem call_set_lstT {l : Addr} {items : Array Value} (ns : List Str) {Q : Value → Shared → Prop} (hh : A.handled = none) (hl : s.heap.IsList l items) (hit : StrsAre items.toList ns) (hb : ∀ m : List Str, m.Nodup → (∀ x ∈ m, x ∈ ns) → m.length < scanBound)
    (h : ∀ (h' : Heap) (tk : Nat), SetT w h' s.heap.objs.size (· ∈ ns) → (∀ b o, s.heap.get? b = some o → h'.get? b = some o) → Q (.ref s.heap.objs.size) { s with heap := h', toks := tk }) :
    wpAny (model P w) A (call (.type "set") [.ref l]) Q E s := by
  have hisz : items.size = ns.length := by
    have q := StrsAre.len_eq hit
    rw [Array.length_toList] at q
    exact q
  obtain ⟨c, tl, hmro⟩ := F.called_set.mro
  have hmade := F.called_set.made
  have hsub := F.called_set.sub
  refine wpAny_call (codeAny_of_tree ?_)
  show wpAny _ _ (callAny (.type "set") _) _ _ _
  refine wpAny_pure ⟨Code.quiet_builtin _ (by decide +kernel), codeAny_builtin F.entry_type_call ?_⟩
  rw [Around.under_plain (weight_type_call_type "set" [.ref l] []) rfl]
  have h1 := F.called_set.notType
  have h2 := F.called_set.canCreate
  have hct := F.typeCall_set_1 (.ref l)
  repeat (any_goals (first | assumption | wp_step))

  refine codeAny_mono (code_set_led1 (.ref l) (E := E) (Q₁ := fun obj s₁ => obj = .ref s.heap.objs.size ∧ s₁ = { s with heap := s.heap.push { cls := .type "set", dict := none, data := .set #[] 0 (.fresh 0 0 (!w.params.followText "set-order")) } }) ⟨rfl, rfl⟩) fun r s₁ hr => ?_
  cases r with
  | error e => exact hr
  | ok fl =>
    cases fl with
    | ret obj =>
      obtain ⟨rfl, rfl⟩ := hr
      have hS : (s.heap.push { cls := .type "set", dict := none, data := .set #[] 0 (.fresh 0 0 (!w.params.followText "set-order")) }).get? s.heap.objs.size = some { cls := .type "set", dict := none, data := .set #[] 0 (.fresh 0 0 (!w.params.followText "set-order")) } := Heap.get?_push_size _ rfl
      have hT : Shared.TypeIs { s with heap := s.heap.push { cls := .type "set", dict := none, data := .set #[] 0 (.fresh 0 0 (!w.params.followText "set-order")) } } (.ref s.heap.objs.size) "set" := ⟨_, hS, rfl⟩
      have hli := F.called_set.init.lookup
      have hbi := F.called_set.init.bind (.ref s.heap.objs.size)
      repeat (any_goals (first | assumption | wp_step))

      refine codeAny_mono (codeAny_call_builtin (R := wants (fun r s₂ => r = .none ∧ ∃ h' tk, s₂ = { s with heap := h', toks := tk } ∧ SetT w h' s.heap.objs.size (· ∈ ns) ∧
          (∀ b o, s.heap.get? b = some o → h'.get? b = some o)) E) F.called_set.init.plain F.entry_set_init (check_set_init_1 hT ?_)) fun r₂ s₂ hr₂ => ?_
      · obtain ⟨ol, hol, hcl, nl, hdl⟩ := hl
        obtain ⟨ocls, odict, odata, oslots⟩ := ol
        simp only at hcl hdl
        subst hcl; subst hdl
        have hol' : (s.heap.push { cls := .type "set", dict := none, data := .set #[] 0 (.fresh 0 0 (!w.params.followText "set-order")) }).get? l = some { cls := .type "list", dict := odict, data := .seq items nl, slots := oslots } := Heap.get?_push_of_some _ hol
        have hsls := F.sub_list_set
        have hslf := F.sub_list_frozenset
        have hne : (Value.type "list" == Value.type "dict") = false := by decide
        have hl1 : (s.heap.push { cls := .type "set", dict := none, data := .set #[] 0 (.fresh 0 0 (!w.params.followText "set-order")) }).IsList l items := ⟨_, hol', rfl, nl, rfl⟩
        unfold Builtin.«set.__init__» noKeywords Builtin.Frozenset.updateFrom
        generalize hPI : pyIter = PI
        wp_walk
        subst hPI

        refine wpAny_pyIter_list hl1 ?_
        refine wpAny_bind (wpAny_runValue ?_)
        have hlS : l < s.heap.objs.size := Heap.lt_size hol
        have hh3 : A.in1.in1.in1.handled = none := by simp [hh]
        have hneI : l ≠ (s.heap.push { cls := .type "set", dict := none, data := .set #[] 0 (.fresh 0 0 (!w.params.followText "set-order")) }).objs.size := by
          rw [Heap.size_push]; exact Nat.ne_of_lt (Nat.lt_succ_of_lt hlS)
        have hSf : s.heap.objs.size ∉ [(s.heap.push { cls := .type "set", dict := none, data := .set #[] 0 (.fresh 0 0 (!w.params.followText "set-order")) }).objs.size, l] := by
          rw [Heap.size_push]; simp only [List.mem_cons, List.mem_singleton, List.not_mem_nil, or_false, not_or]
          exact ⟨Nat.ne_of_lt (Nat.lt_succ_self _), Nat.ne_of_gt hlS⟩
        have hval : ∀ (i : Nat) (v : Value), items[i]? = some v → ∃ k t, ns[i]? = some k ∧ v = .str k t := fun i v hv => by
          have hi : i < ns.length := by rw [← hisz]; exact (Array.getElem?_eq_some_iff.mp hv).1
          obtain ⟨t, e⟩ := SS.strs_at hit i v (by rw [Array.getElem?_toList]; exact hv)
          refine ⟨ns[i], t, List.getElem?_eq_getElem hi, ?_⟩
          rw [e, List.getD_eq_getElem?_getD, List.getElem?_eq_getElem hi] <;> rfl
        refine set_update_txts ((PySem.Walks.list hh3 _ l hneI items).toS) s.heap.objs.size
          hSf ns hisz hb hval (items.size - 0) 0 _ (by omega) (Nat.zero_le _)
          ⟨⟨_, Heap.get?_push_size _ rfl, rfl, rfl⟩, (hl1.push _)⟩ ?hS0 ?hR
        case hS0 =>
          have hget : ((s.heap.push { cls := .type "set", dict := none, data := .set #[] 0 (.fresh 0 0 (!w.params.followText "set-order")) }).push { cls := .type "list_iterator", data := .fields #[.ref l, .int 0 0] }).get? s.heap.objs.size
              = some { cls := .type "set", dict := none, data := .set #[] 0 (.fresh 0 0 (!w.params.followText "set-order")) } := Heap.get?_push_of_some _ hS
          exact setT_new_at hget
        case hR =>
          intro s' hm hS'
          obtain ⟨h', g2, d', tk', os'⟩ := s'
          have eg : g2 = s.gens := hm.gens
          have ed : d' = s.drawn := hm.drawn
          have eo : os' = s.os := hm.os
          subst eg; subst ed; subst eo
          show wpAny _ _ _ _ _ _
          refine wpAny_pure ?_
          show wpAny _ _ (PySem.ret Value.none) _ _ _
          refine wpAny_pure ⟨rfl, h', tk', rfl, hS', fun b o e => ?_⟩
          have hb0 : b < s.heap.objs.size := Heap.lt_size e
          have hb1 : b ≠ s.heap.objs.size := Nat.ne_of_lt hb0
          have hb2 : b ≠ (s.heap.push { cls := .type "set", dict := none, data := .set #[] 0 (.fresh 0 0 (!w.params.followText "set-order")) }).objs.size := by
            rw [Heap.size_push]; exact Nat.ne_of_lt (Nat.lt_succ_of_lt hb0)
          exact hm.heap b o (by simp only [List.mem_cons, List.mem_singleton, List.not_mem_nil, or_false, not_or]; exact ⟨hb1, hb2⟩) (Heap.get?_push_of_some _ (Heap.get?_push_of_some _ e))

      · cases r₂ with
        | error e => exact hr₂
        | ok fl₂ =>
          cases fl₂ with
          | ret r =>
            obtain ⟨rfl, h', tk, rfl, hS', hk'⟩ := hr₂
            repeat (any_goals (first | assumption | wp_step))
            exact h _ _ hS' hk'
          | _ => exact hr₂.elim
    | _ => exact hr.elim
/-- sorted of such a set -/
theorem txts_of : ∀ (l : List (Int × Value)), (∀ e ∈ l, GoodT w e) → StrsAre (l.map (·.2)) (l.map keyS)
  | [], _ => .nil
  | e :: l, g => by
    obtain ⟨k, tk, h1, _⟩ := g e List.mem_cons_self
    have h2 : keyS e = k := by unfold keyS; rw [h1]
    rw [List.map_cons, List.map_cons, h1, h2]
    exact .cons k tk (txts_of l fun u hu => g u (List.mem_cons_of_mem _ hu))
theorem txts_perm {us vs : List Value} {ks : List Str} (p : vs.Perm us) (h : StrsAre us ks) : ∃ ms, StrsAre vs ms ∧ ms.Perm ks := by
  induction p generalizing ks with
  | nil => cases h; exact ⟨[], .nil, .refl _⟩
  | cons x p ih =>
    cases h with
    | cons y t r =>
      obtain ⟨ms, a, b⟩ := ih r
      exact ⟨y :: ms, .cons y t a, b.cons y⟩
  | swap x y l =>
    cases h with
    | cons y t r =>
      cases r with
      | cons z t2 r =>
        exact ⟨z :: y :: _, .cons z t2 (.cons y t r), .swap _ _ _⟩
  | trans p q ih1 ih2 =>
    obtain ⟨ms, a, b⟩ := ih2 h
    obtain ⟨ms2, a2, b2⟩ := ih1 a
    exact ⟨ms2, a2, b2.trans b⟩
def uniqS : List Str → List Str
  | [] => []
  | x :: r => if x ∈ r then uniqS r else x :: uniqS r
theorem mem_uniqS {x : Str} : ∀ {l : List Str}, x ∈ uniqS l ↔ x ∈ l
  | [] => Iff.rfl
  | y :: r => by
    rw [uniqS]
    by_cases h : y ∈ r
    · rw [if_pos h, mem_uniqS, List.mem_cons]
      exact ⟨.inr, fun z => z.elim (fun e => e ▸ h) id⟩
    · rw [if_neg h, List.mem_cons, List.mem_cons, mem_uniqS]
theorem uniqS_nodup : ∀ l : List Str, (uniqS l).Nodup
  | [] => List.nodup_nil
  | y :: r => by
    rw [uniqS]
    by_cases h : y ∈ r
    · rw [if_pos h]; exact uniqS_nodup r
    · rw [if_neg h]; exact List.nodup_cons.mpr ⟨fun z => h (mem_uniqS.mp z), uniqS_nodup r⟩
theorem uniqS_id : ∀ {l : List Str}, l.Nodup → uniqS l = l
  | [], _ => rfl
  | y :: r, h => by
    obtain ⟨h1, h2⟩ := List.nodup_cons.mp h
    rw [uniqS, if_neg h1, uniqS_id h2]
theorem nodup_perm : ∀ {l m : List Str}, l.Nodup → m.Nodup → (∀ x, x ∈ l ↔ x ∈ m) → l.Perm m
  | [], m, _, _, h => by
    cases m with
    | nil => exact .refl _
    | cons y m => exact absurd ((h y).mpr List.mem_cons_self) (by simp)
  | a :: l, m, hl, hm, h => by
    obtain ⟨h1, h2⟩ := List.nodup_cons.mp hl
    have ha : a ∈ m := (h a).mp List.mem_cons_self
    have i := nodup_perm (l := l) (m := m.erase a) h2 (hm.erase a) fun x => by
      rw [hm.mem_erase_iff]
      refine ⟨fun z => ⟨fun e => h1 (e ▸ z), (h x).mp (List.mem_cons_of_mem _ z)⟩, fun z => ?_⟩
      rcases List.mem_cons.mp ((h x).mpr z.2) with e | e
      · exact absurd e z.1
      · exact e
    exact (i.cons a).trans (List.perm_cons_erase ha).symm
theorem sorted_setT {ks : List Str} {Q : Value → Shared → Prop} (R : SetT w s.heap a (· ∈ ks)) (hh : A.handled = none) (h64 : (uniqS ks).length < 64)
    (hQ : ∀ s' p (out : Array Value) (c : Nat), (∀ b o, s.heap.get? b = some o → s'.heap.get? b = some o) → s'.gens = s.gens → s'.os = s.os → s.heap.objs.size ≤ p →
      s'.heap.get? p = some (seqObj "list" out c) → StrsAre out.toList ((uniqS ks).mergeSort leStr) → Q (.ref p) s') :
    wpAny (model P w) A (call (.builtin "sorted") [.ref a]) Q E s := by
  obtain ⟨o, es, ep, t, ho, hex, hd, g, nd, hm, hb, hf, hr, hl⟩ := R
  refine Calls.call_function_entry kind_sorted plain_sorted entry_sorted (args_sorted1 _) ?_
  unfold Builtin.«sorted»
  refine wpAny_bind (m := checkCount "sorted" 1 1 _) (wpAny_pure ?_)
  refine wpAny_bind (collect_set (A := A.in1) hh ⟨o, ho, hex.1, hd⟩ hf hb hr hl fun s1 vs k1 hz g1 o1 pm => ?_)
  obtain ⟨ms, hS, pms⟩ := txts_perm pm (txts_of _ g)
  have pu : ms.Perm (uniqS ks) := pms.trans (nodup_perm nd (uniqS_nodup ks) fun x => ((hm x).symm.trans mem_uniqS.symm))
  have hvl : vs.length = (uniqS ks).length := (StrsAre.len_eq hS).trans pu.length_eq
  refine wpAny_bind (wpAny_newList ?_ (by rw [hvl, sizeLine_eq]; omega))
  have hoL : (s1.heap.push (seqObj "list" vs.toArray 0)).get? s1.heap.objs.size = some (seqObj "list" vs.toArray 0) := Heap.get?_push_size _ rfl
  refine wpAny_bind (wpAny_holding (wpAny_call_entry slot_list_sort ⟨_, hoL, rfl⟩ entry_list_sort
    (list_sort_treeK strKind_oneLt (s := { s1 with heap := s1.heap.push (seqObj "list" vs.toArray 0) }) hoL hS.keysOf (fun v₁ v₂ rest e => keyKind_strs (by rw [← e]; exact hS)) (by rw [hvl]; exact h64) fun st' hp hs => ⟨_, rfl, ?_⟩)
    (args_list_sort _)))
  obtain ⟨ys, q1, q2, q3⟩ := sorted_out_str hS hp hs
  obtain ⟨c, hc⟩ := sortedHeap_at (vs := vs) (out := (arrOf st').map (·.2)) hoL
  refine wpAny_pure ⟨_, rfl, hQ _ s1.heap.objs.size _ c (fun b u e => ?_) g1 o1 hz hc (by rw [← sort_strs (q2.trans pu) q3]; exact q1)⟩
  have q := k1 b u e
  have hlt := Heap.lt_size q
  rw [sortedHeap_old (Nat.ne_of_lt hlt) (by rw [size_push']; exact Nat.lt_succ_of_lt hlt)]
  exact Heap.get?_push_of_some _ q
end
section
variable {X : Cx}
def tSset (K : PySem.W.Frag) (te : TE) : TE := fun σ H Q => te σ H fun v H1 => ∃ (a : Addr) (ks : List Str), v = .ref a ∧ SqL K H1 a (ks.map V.str) ∧ (uniqS ks).length < 64 ∧ ∀ q, H1 q = none → Q (.ref q) (upd H1 q (.lst (((uniqS ks).mergeSort leStr).map V.str)))
theorem pe_sset {e : Expr} {te : TE} {p p2 pos pos2 : Pos} (hc : X.calm = true) (hg : Gl X "sorted") (hm : X.mg "sorted" = none) (hg2 : Gl X "set") (hm2 : X.mg "set" = none) (he : PE X e te)
    (hs : starEach [e] X.env = (false, eval e X.env) :: starEach [] X.env := by rfl)
    (hs2 : starEach [.Call (.Name "set" p2) [e] [] pos2] X.env = (false, eval (.Call (.Name "set" p2) [e] [] pos2) X.env) :: starEach [] X.env := by rfl) :
    PE X (.Call (.Name "sorted" p) [.Call (.Name "set" p2) [e] [] pos2] [] pos) (tSset X.K te) := by
  refine ⟨fun pins s σ H Q I h => ?_⟩
  refine Call_ (ld_blt I hg hm PyProof.Rows.boot_sorted (PyProof.Rows.callWith_builtin1 (args_cons (Call_ (ld_blt I hg2 hm2 PyProof.Rows.boot_set (PyProof.Rows.callWith_type1 (args_cons (thn (he.run pins s σ H _ I h) fun u s1 ⟨v, H1, I1, r1, q1⟩ => args_nil ?_) hs) hs rfl))) hs2) hs2 rfl))
  obtain ⟨a, ks, ev, hq, h64, q⟩ := q1
  subst ev
  obtain rfl : u = Value.ref a := r1
  obtain ⟨its, rv, p', hz⟩ := I1.list hq
  refine call_set_lstT ks (I1.ok.hd hc) p'.isList (by simpa using rv.strs) (fun m hm hx => by
    have := sub_len hm (m := uniqS ks) fun x h => mem_uniqS.mpr (hx x h)
    unfold scanBound
    omega) fun h' tk hS hk => args_nil ?_
  have I2 : Inv X pins σ H1 { s1 with heap := h', toks := tk } := I1.kept (t' := tk) hk
  have key : ∀ (s2 : Shared) (a0 : Addr), Inv X pins σ H1 s2 → SetT X.w s2.heap a0 (· ∈ ks) → wpAny (model X.prog X.w) X.A (call (.builtin "sorted") [.ref a0]) (EP X pins σ Q) X.xe s2 := by
    intro s2 a0 I2 hS
    refine sorted_setT hS (I2.ok.hd hc) h64 fun s' p out c k g o hp hg hi => ?_
    have hlen : (((uniqS ks).mergeSort leStr).map V.str).length ≤ sizeLine := by rw [List.length_map, List.length_mergeSort, sizeLine_eq]; omega
    have hn : H1 p = none := I2.hok.fresh hp
    have J : Inv X pins σ (upd H1 p (.lst (((uniqS ks).mergeSort leStr).map V.str))) { s2 with heap := s'.heap, gens := s'.gens, drawn := s'.drawn, toks := s'.toks } :=
      I2.call (ch := []) (Un.laid k hp hn) (I2.hok.laid k hp ⟨hlen, out.toList, c, vals_of_strs hi, hg⟩) (by rw [g]; exact I2.bare) (fun _ z => nomatch z)
    have e : s' = { s2 with heap := s'.heap, gens := s'.gens, drawn := s'.drawn, toks := s'.toks } := by
      cases s'
      cases s2
      cases o
      rfl
    rw [e]
    exact ⟨.ref p, _, J, rfl, q p hn⟩
  exact key _ _ I2 hS
variable {ec : EC} {E : L2.WX} {e : Expr} {p p2 pos pos2 : Pos}
def strsT : List D → Option (List Str)
  | [] => some []
  | .str x :: r => (strsT r).map (x :: ·)
  | _ => none
theorem strsT_map : ∀ ks : List Str, strsT (ks.map D.str) = some ks
  | [] => rfl
  | k :: ks => by rw [List.map_cons, strsT, strsT_map ks]; rfl
theorem strsT_at {K : PySem.W.Frag} {H : Hp} : ∀ {ds : List D} {ks : List Str} {xs : List V}, strsT ds = some ks → AtAll K H ds xs → xs = ks.map V.str
  | [], ks, xs, h, a => by cases h; rw [a.inv0]; rfl
  | d :: ds, ks, xs, h, a => by
    obtain ⟨x, t, rfl, h1, h2⟩ := a.inv
    cases d with
    | str y =>
      have h : (strsT ds).map (y :: ·) = some ks := h
      obtain ⟨ms, e1, rfl⟩ := Option.map_eq_some_iff.mp h
      rw [strsT_at e1 h2, List.map_cons]
      cases (show x = V.str y from h1)
      rfl
    | _ => cases h
def ssetD : D → Option RV
  | .lst ds => (strsT ds).bind fun ks => if (uniqS ks).length < 64 then some (.own (.lst (((uniqS ks).mergeSort leStr).map D.str))) else none
  | _ => none
def ssetM (m : M D) : M RV := bnd m fun d => lift (ssetD d)
theorem ap_ssetM (m : M D) (s : DSt) : ssetM m s = bnd m (fun d => lift (ssetD d)) s := rfl
theorem sset_lst {ks : List Str} (h2 : (uniqS ks).length < 64) : ssetD (.lst (ks.map D.str)) = some (.own (.lst (((uniqS ks).mergeSort leStr).map D.str))) := by
  rw [ssetD, strsT_map]
  exact if_pos h2
theorem dr_sset {m : M D} (hc : X.calm = true) (hg : Gl X "sorted") (hm : X.mg "sorted" = none) (hg2 : Gl X "set") (hm2 : X.mg "set" = none) (h : DV X ec E e m)
    (hs : starEach [e] X.env = (false, eval e X.env) :: starEach [] X.env)
    (hs2 : starEach [.Call (.Name "set" p2) [e] [] pos2] X.env = (false, eval (.Call (.Name "set" p2) [e] [] pos2) X.env) :: starEach [] X.env) :
    DR X ec E (.Call (.Name "sorted" p) [.Call (.Name "set" p2) [e] [] pos2] [] pos) (ssetM m) := by
  obtain ⟨t, h1, h2⟩ := h.run
  refine DR.mk0 (pe_sset hc hg hm hg2 hm2 h1 hs hs2) fun σ H s Q hR hm => ?_
  refine h2 σ H s _ hR (hm.bnd.imp fun d s1 H1 _ e1 R1 S1 hk v hv => ?_)
  obtain ⟨r, hr, hk⟩ := hk.lift
  unfold ssetD at hr
  split at hr
  · obtain ⟨ks, e2, e3⟩ := Option.bind_eq_some_iff.mp hr
    split at e3
    · rename_i hl
      cases e3
      unfold At at hv
      obtain ⟨a, xs, rfl, h3, h4⟩ := hv
      have ex := strsT_at e2 h4
      subst ex
      exact ⟨a, ks, rfl, h3.sql, hl, fun q hq => hk _ (.new hq) (R1.toRel0.evo0 (.new hq)) _ ((new_own_lst hq (at_strs _)).back fun p hp => e1.free p hp)⟩
    · cases e3
  · cases hr
end
end Dt

end
section
set_option maxRecDepth 100000
set_option autoImplicit false
set_option maxHeartbeats 4000000
/-! xs != ys, lists of dicts keyed by texts. -/
namespace Dt
open PySem PySem.Spec PyProof.Rows L2
section
open AutoSeq1 (wpAny_loadPart')
open PySem.SeqAt PySem.MeetsSeq PySem.MeetsSeq2 PySem.MeetsSeq3
variable {prog : Program} {w : World}
theorem ne_loopIn (l b : Addr) (items items2 : Array Value) (n n2 : Nat) (dd dd2 : Option Addr) (sl sl2 : Array (Option Value)) (hsz : items.size = items2.size) (e : Nat → Bool) (k : Nat) :
    ∀ i : Nat, items.size - i = k → MeetsIn prog w (Builtin.«list.__eq__.loop» ⟨[.ref l, .ref b, rawInt i, rawInt 3], []⟩)
      (fun A R s => s.heap.get? l = some { cls := .type "list", dict := dd, data := .seq items n, slots := sl } ∧ s.heap.get? b = some { cls := .type "list", dict := dd2, data := .seq items2 n2, slots := sl2 } ∧
        (∀ j (h1 : j < items.size) (h2 : j < items2.size), EqIn prog w A.in1 s items[j] items2[j] (e j)) ∧
        R (.ok (.ret (.bool (!((List.range items.size).drop i).all e)))) s) := by
  induction k with
  | zero =>
    intro i hk A R s h
    obtain ⟨hp, g, d, tk, os⟩ := s; obtain ⟨hl, hb, he, h⟩ := h
    wp_walk using wpAny_loadPart' hl, wpAny_loadPart' hb
    have hi1 : items[((i : Nat) : Int).toNat]? = none := by simp; omega
    have hi2 : items2[((i : Nat) : Int).toNat]? = none := by simp; omega
    have hd : (List.range items.size).drop i = [] := by simp; omega
    rw [hd] at h
    rw [hi1, hi2]
    wp_walk using wpAny_loadPart' hl, wpAny_loadPart' hb
    show R (.ok (.ret (.bool (items.size != items2.size)))) _
    rw [hsz]
    simpa using h
  | succ k ih =>
    intro i hk A R s h
    obtain ⟨hp, g, d, tk, os⟩ := s; obtain ⟨hl, hb, he, h⟩ := h
    wp_walk using wpAny_loadPart' hl, wpAny_loadPart' hb
    have hlt : i < items.size := by omega
    have hlt2 : i < items2.size := by omega
    have hi1 : items[((i : Nat) : Int).toNat]? = some items[i] := by simp [hlt]
    have hi2 : items2[((i : Nat) : Int).toNat]? = some items2[i] := by simp [hlt2]
    have hd : (List.range items.size).drop i = i :: (List.range items.size).drop (i + 1) := by simp [List.drop_eq_getElem_cons, hlt]
    have hc : ((i : Int) + 1) = ((i + 1 : Nat) : Int) := by push_cast; rfl
    rw [hd, List.all_cons] at h
    rw [hi1, hi2]
    refine wpAny_bind (he i hlt hlt2 _ _ ?_)
    cases hb' : e i with
    | true =>
      rw [hb'] at h
      wp_walk
      rw [hc]
      exact ⟨plainId_quiet plain_eq_loop _, codeAny_builtin entry_eq_loop (by
        rw [Around.under_plainId plain_eq_loop _]
        exact ih (i + 1) (by omega) A R _ ⟨hl, hb, he, by simpa using h⟩)⟩
    | false =>
      rw [hb'] at h
      wp_walk using wpAny_loadPart' hl, wpAny_loadPart' hb
      rw [hi1, hi2]
      wp_walk
      simpa using h
theorem list_neIn (l b : Addr) (items items2 : Array Value) (n n2 : Nat) (dd dd2 : Option Addr) (sl sl2 : Array (Option Value)) (hsz : items.size = items2.size) (e : Nat → Bool) :
    MeetsIn prog w (Builtin.«list.__ne__» ⟨[.ref l, .ref b], []⟩)
      (fun A R s => s.heap.get? l = some { cls := .type "list", dict := dd, data := .seq items n, slots := sl } ∧ s.heap.get? b = some { cls := .type "list", dict := dd2, data := .seq items2 n2, slots := sl2 } ∧
        (∀ j (h1 : j < items.size) (h2 : j < items2.size), EqIn prog w A.in1 s items[j] items2[j] (e j)) ∧
        R (.ok (.ret (.bool (!(List.range items.size).all e)))) s) := by
  intro A R s h
  obtain ⟨hp, g, d, tk, os⟩ := s; obtain ⟨hl, hb, he, h⟩ := h
  have f3 := AutoSeq1.sub_list_list
  have hne : ¬ (items.size != items2.size) = true := by simp [hsz]
  wp_walk using wpAny_loadPart' hl, wpAny_loadPart' hb
  exact ⟨plainId_quiet plain_eq_loop _, codeAny_builtin entry_eq_loop (by
    rw [Around.under_plainId plain_eq_loop _]
    exact ne_loopIn l b items items2 n n2 dd dd2 sl sl2 hsz e _ 0 rfl A R _ ⟨hl, hb, he, by simpa using h⟩)⟩
theorem rcNeIn_lists {A : Around} {s : Shared} {E : Value → Shared → Prop} {l b : Addr} {items items2 : Array Value} {e : Nat → Bool} {Q : Value → Shared → Prop} (hl : s.heap.IsList l items) (hb : s.heap.IsList b items2) (hsz : items.size = items2.size) (hu : A.units < cLine)
    (he : ∀ j (h1 : j < items.size) (h2 : j < items2.size), EqIn prog w A.in1 s items[j] items2[j] (e j)) (h : Q (.bool (!(List.range items.size).all e)) s) : wpAny (model prog w) A (richCompare .NotEq (.ref l) (.ref b)) Q E s := by
  obtain ⟨⟨cls, dd, data, sl⟩, ho, hc, n, hd⟩ := id hl
  obtain ⟨⟨cls2, dd2, data2, sl2⟩, ho2, hc2, n2, hd2⟩ := id hb
  simp only at hc hd hc2 hd2
  subst hc hd hc2 hd2
  exact wpAny_richCompare_same_room (T := "list") (op := .NotEq) ⟨_, ho, rfl⟩ ⟨_, ho2, rfl⟩ PySem.F.slot_list_ne (call_meetsIn PySem.F.slot_list_ne ⟨_, ho, rfl⟩ PySem.F.entry_list_ne (PySem.F.args_list_ne_2 _ _) (list_neIn l b items items2 n n2 dd dd2 sl sl2 hsz e)
    ⟨ho, ho2, he, show Value.bool (!(List.range items.size).all e) ≠ Value.notImplemented ∧ Q (.bool (!(List.range items.size).all e)) s from ⟨(fun x => nomatch x), h⟩⟩) hu
end
def dicPair : D → D → Bool
  | .dic false a, .dic false b => dicOk a b && decide ((a.map (·.1)).Nodup)
  | _, _ => false
def dicsOk : List D → List D → Bool
  | [], [] => true
  | d :: ds, e :: es => dicPair d e && dicsOk ds es
  | _, _ => false
section
variable {X : Cx} {pins : List (Addr × Obj)} {σ : Sl} {H : Hp} {s : Shared}
theorem kvs_uniq (I : Inv X pins σ H s) : ∀ {a b : List (DK × D)} {es : List (Key × V)}, noDics (vals a) = true → noDics (vals b) = true → AtK X.K H a es → AtK X.K H b es → a = b
  | [], b, es, _, _, h, q => by
    rw [h.inv0] at q
    cases b with
    | nil => rfl
    | cons p b => obtain ⟨k', x, r', e, _⟩ := q.inv; cases e
  | (k, d) :: a, b, es, hn, hm, h, q => by
    obtain ⟨k', x, r', rfl, rfl, h1, h2⟩ := h.inv
    have hn' : noDic d = true ∧ noDics (vals a) = true := by simpa [vals, noDics] using hn
    cases b with
    | nil => have := q.inv0; cases this
    | cons p b =>
      obtain ⟨k2, d2⟩ := p
      obtain ⟨k3, x3, r3, e3, ek, g1, g2⟩ := q.inv
      cases e3
      have hm' : noDic d2 = true ∧ noDics (vals b) = true := by simpa [vals, noDics] using hm
      have e1 := Ct.uniq I _ _ _ hn'.1 hm'.1 h1.ct g1.ct
      rw [kvs_uniq I hn'.2 hm'.2 h2 g2, e1, ek]
theorem eqIn_dic (I : Inv X pins σ H s) {d e : D} {A : Around} {x y : V} {u t : Value} (hx : At X.K H d x) (hy : At X.K H e y) (ru : RelV x u) (rt : RelV y t) (hc : dicPair d e = true) (hu : A.units + 62 < cLine) :
    SeqAt.EqIn X.prog X.w A s u t (eqvD d e) := by
  unfold dicPair at hc
  split at hc
  · rename_i a b
    simp only [dicOk, Bool.and_eq_true, decide_eq_true_eq] at hc
    obtain ⟨⟨c1, c2, c3⟩, nd⟩ := hc
    obtain ⟨p1, es, rfl, h1, h2⟩ := hx.ct.dicK
    obtain ⟨p2, es2, rfl, h3, h4⟩ := hy.ct.dicK
    obtain rfl : u = Value.ref p1 := ru
    obtain rfl : t = Value.ref p2 := rt
    rw [eqv_dic]
    by_cases hp : p1 = p2
    · subst hp
      have ee : es = es2 := by
        rcases h1 with a1 | ⟨o1, a1⟩ <;> rcases h3 with a2 | ⟨o2, a2⟩ <;> (rw [a1] at a2; cases a2) <;> rfl
      subst ee
      have ab := kvs_uniq I c1 c2 h2 h4
      subst ab
      rw [eqvKV_self a c1 a (look_mem nd) c1]
      have bq : (a.length == a.length && true) = true := by simp
      rw [bq]
      exact (SeqAt.EqAt.same _).inModel X.prog X.w
    · obtain ⟨_, ya, va, ra, da⟩ := (show ObjOk X.prog X.w H s.heap p1 (.dK es) from h1.ok I.hok)
      obtain ⟨_, yb, vb, rb, db⟩ := (show ObjOk X.prog X.w H s.heap p2 (.dK es2) from h3.ok I.hok)
      have l1 : va.length = a.length := by rw [← ra.length, h2.len]
      have l2 : vb.length = b.length := by rw [← rb.length, h4.len]
      refine SeqAt.EqIn.of_refs hp fun E Q hq => ?_
      exact PySem.W.keq_eq (knd := mixKind X.prog X.w) ya yb da db (by omega) (fun _ => hitsK I a b es es2 va vb h2 h4 ra rb c1 c2 (by show A.units + 1 + _ < _; omega)) (by rw [l1, l2]; exact hq)
  · cases hc
theorem eqIn_dics (I : Inv X pins σ H s) {A : Around} (hu : A.units + 62 < cLine) : ∀ (ds es : List D) (xs ys : List V) (us ts : List Value), AtAll X.K H ds xs → AtAll X.K H es ys → Vals xs us → Vals ys ts → dicsOk ds es = true →
    us.length = ts.length ∧ ∀ j (h1 : j < us.length) (h2 : j < ts.length), SeqAt.EqIn X.prog X.w A s us[j] ts[j] (pairEq ds es j)
  | [], [], _, _, _, _, h, q, r, r', _ => by
    rw [h.inv0] at r
    rw [q.inv0] at r'
    cases r
    cases r'
    exact ⟨rfl, fun j h1 _ => absurd h1 (Nat.not_lt_zero _)⟩
  | [], _ :: _, _, _, _, _, _, _, _, _, hc => by cases hc
  | _ :: _, [], _, _, _, _, _, _, _, _, hc => by cases hc
  | d :: ds, e :: es, _, _, _, _, h, q, r, r', hc => by
    have hc : (dicPair d e && dicsOk ds es) = true := hc
    rw [Bool.and_eq_true] at hc
    obtain ⟨x, xs, rfl, a1, a2⟩ := h.inv
    obtain ⟨y, ys, rfl, b1, b2⟩ := q.inv
    cases r with
    | cons r1 r2 =>
      cases r' with
      | cons s1 s2 =>
        obtain ⟨i1, i2⟩ := eqIn_dics I hu ds es xs ys _ _ a2 b2 r2 s2 hc.2
        refine ⟨by rw [List.length_cons, List.length_cons, i1], fun j h1 h2 => ?_⟩
        cases j with
        | zero => exact eqIn_dic I a1 b1 r1 s1 hc.1 hu
        | succ j => exact i2 j (Nat.lt_of_succ_lt_succ h1) (Nat.lt_of_succ_lt_succ h2)
end
def neL (d e : D) : Option D := match d, e with
  | .lst ds, .lst es => if dicsOk ds es = true then some (.bl (!eqvD (.lst ds) (.lst es))) else neE (.lst ds) (.lst es)
  | d, e => neE d e
theorem op_neL {X : Cx} (hu : X.A.units + 64 < cLine) : OpR X (compareOp .NotEq) (rV2 X.K neL) := by
  intro pins s σ H x y v u Q I rx ry h
  obtain ⟨d, e, r, hd, he, hg, hb, q⟩ := h
  unfold neL at hg
  split at hg
  · rename_i ds es
    split at hg
    · rename_i c
      cases hg
      obtain ⟨a, xs, its, rfl, rfl, _, hx, rv, hl, n1⟩ := ct_list I hd rx
      obtain ⟨b, ys, jts, rfl, rfl, _, hy, rw', hl', n2⟩ := ct_list I he ry
      obtain ⟨l1, l2⟩ := eqIn_dics I (A := X.A.in1) (by show X.A.units + 1 + 62 < cLine; omega) ds es xs ys its jts hx hy rv rw' c
      rw [show eqvD (.lst ds) (.lst es) = eqvAll ds es from by rw [eqvD], ← eqvAll_same_length (by omega : ds.length = es.length), ← n1] at q
      refine rcNeIn_lists hl hl' (by simpa using l1) (by omega) (e := pairEq ds es) (fun j j1 j2 => ?_) ?_
      · have := l2 j (by simpa using j1) (by simpa using j2)
        simpa using this
      · rw [show its.toArray.size = its.length from by simp]
        exact ⟨.bl _, H, I, rfl, q _ _ .self rfl⟩
    · exact op_neE hu pins s σ H x y v u Q I rx ry ⟨_, _, r, hd, he, hg, hb, q⟩
  · exact op_neE hu pins s σ H x y v u Q I rx ry ⟨d, e, r, hd, he, hg, hb, q⟩
end Dt

end
section
set_option maxRecDepth 100000
set_option autoImplicit false
set_option maxHeartbeats 4000000
/-! Own exceptions as values: made, read, asked, kept by a try. -/
namespace Dt
open PySem PySem.Spec PyProof.Rows L2
theorem frzT_ok {P : Program} {w : World} {H : Hp} {h : Heap} {a : Addr} {oe : Obj} (e : h.get? a = some oe) : ObjOk P w H h a (.frz oe uT) :=
  ⟨e, True.intro, ⟨oe, e⟩, fun _ _ _ _ => True.intro⟩
def tMkV (C : Addr) (sp : Sp) (dvs : List V) (ta : TA) : TE := fun σ H Q => ta σ H fun vs H1 => vs.length ≤ 1000 ∧ ∀ a, H1 a = none → sp (.ref a :: (vs ++ dvs)) (upd H1 a (exo a C none))
  (fun v H2 => v = .non ∧ ∃ (d : Addr) (fs : List (Str × V)), H2 a = some (exo a C (some d)) ∧ H2 d = some (exd d fs) ∧ H1 d = none ∧ ∀ oe : Obj, Zc (.ref C) (some d) oe → (∃ vs, oe.data = .fields vs) → Q (.ref a) (upd (upd (del H2 a) d (.xd fs)) a (.frz oe uT))) (fun _ _ _ => False)
section
variable {X : Cx} {e : Expr} {es : List Expr} {ta : TA} {p pos : Pos}
theorem pe_oexV {CX : CXT} {x : Str} {C fI : Addr} {k : Nat} {fd : FuncData} {ps : List Str} {sp : Sp} {ds : List Value} {dvs : List V} (T : OexC X.K C) (iC : PySem.W.findIn X.K (.ref C) "__init__" = some (some (.ref fI))) (tI : PySem.W.typeIn X.K (.ref fI) = some (.type "function"))
    (F1 : FnOk X.prog X.w X.K X.mg X.base CX k fI fd ps sp) (hr : Room (k + 1) X.A) (hb : Binds X.K fd ps ds) (hd : Vals dvs ds) (hx : Passes CX X (fun _ _ _ => False)) (hg : Gl X x) (hm : X.mg x = some (.ref C)) (ha : PA X (e :: es) ta)
    (hdb : (x == ("__debug__" : Str)) = false) (he : starEach (e :: es) X.env = (false, eval e X.env) :: starEach es X.env) (hpl : (backTo pos (starEach es X.env)).any (·.1) = false) :
    PE X (.Call (.Name x p) (e :: es) [] pos) (tMkV C sp dvs ta) := by
  refine ⟨fun pins s σ H Q I h => ?_⟩
  obtain ⟨nm, q, N, bs, bm, sn, sub, ab, col, dd, k0, k1, k2, k3, k5, hC, hbm⟩ := T.cls
  refine wpAny_Call_Name_kw (ld_glob I hg hm ?_ hdb)
  refine PySem.W.callWith_K (h₀ := X.base) I.ok.mod.kin T.kC (thn (ha.run pos pins s σ H _ I h) fun us s1 ⟨vs, H1, I1, r1, hz, q1⟩ => ⟨I1.kIn, ?_⟩) he hpl
  show wpAny _ _ (call (.ref C) us) _ _ _
  obtain ⟨hp, g, dr, tk, os⟩ := s1
  have hsz : hp.objs.size ≤ hp.objs.size + 1 := Nat.le_succ _
  have hn : H1 (hp.objs.size + 1) = none := I1.hok.fresh hsz
  have hq := q1 (hp.objs.size + 1) hn
  have kk : ∀ b o, hp.get? b = some o → ((hp.push (PySem.W.kdv_tup us)).push (PySem.HandSPX.excO C hp.objs.size)).get? b = some o := fun b o e => Heap.get?_push_of_some _ (Heap.get?_push_of_some _ e)
  have hget : ((hp.push (PySem.W.kdv_tup us)).push (PySem.HandSPX.excO C hp.objs.size)).get? (hp.objs.size + 1) = some (PySem.HandSPX.excO C hp.objs.size) := by heap_get
  have I2 : Inv X pins σ (upd H1 (hp.objs.size + 1) (exo (hp.objs.size + 1) C none)) ⟨(hp.push (PySem.W.kdv_tup us)).push (PySem.HandSPX.excO C hp.objs.size), g, dr, tk, os⟩ :=
    I1.laid (t' := tk) (a := hp.objs.size + 1) (o := exo (hp.objs.size + 1) C none) (h' := (hp.push (PySem.W.kdv_tup us)).push (PySem.HandSPX.excO C hp.objs.size)) kk hsz (exo_ok hget)
  have r2 : Vals (V.ref (hp.objs.size + 1) :: (vs ++ dvs)) (Value.ref (hp.objs.size + 1) :: (us ++ ds)) := .cons rfl (r1.append hd)
  have hl : (Value.ref (hp.objs.size + 1) :: us ++ ds).length = ps.length := by
    have e := r2.length
    rw [F1.len _ _ _ _ hq] at e
    exact e.symm
  have hus : us.length ≤ sizeLine := by
    rw [← Paired.length r1, sizeLine_eq]
    omega
  refine wpAny_call (PySem.HandSPX.call_own F.excBase_ValueError (fun Y => PySem.HandSPX.refsVE_contains Y bm hbm) (I1.kIn _ _ hC) (PySem.W.looks_findIn I1.kIn iC) (fun self => PySem.W.bind_fn I1.kIn self tI) hus
    (codeAny_mono (F1.run _ X.stack _ _ ⟨Value.ref (hp.objs.size + 1) :: us, []⟩ (Value.ref (hp.objs.size + 1) :: (us ++ ds)) _ _ (fun _ _ _ => False) (hr.make C us []) (I2.env0.make C us []) (hb _ (Value.ref (hp.objs.size + 1) :: us) I2.kIn hl) r2 hq) fun r s' hq' => ?_))
  cases r with
  | error er => exact hx pins σ _ _ er s' I2 hq'
  | ok fl =>
    cases fl with
    | ret u =>
      obtain ⟨v, H2, os2, bare2, un2, hok2, rv, ev, d, fs, ea, ed, hd1, q2⟩ := hq'
      subst ev
      obtain ⟨h2, g2, d2, t2, os'⟩ := s'
      obtain ⟨t0, G, J, kG, ge, hoe, na⟩ := mk_end0 (d2 := d2) (t2 := t2) I1 hsz kk un2 hok2 os2 bare2 ea ed hd1
      exact ⟨rv, .ref (hp.objs.size + 1), _, J.laidN (h' := h2) (t' := t2) kG ge na (frzT_ok hoe), rfl, q2 _ ⟨rfl, rfl⟩ ⟨_, rfl⟩⟩
    | next => exact False.elim hq'
    | brk => exact False.elim hq'
    | cont => exact False.elim hq'
end
section
variable {X : Cx} {ec : EC} {E : L2.WX} {e : Expr} {x f : Str} {C : Addr} {p pos : Pos}
/-- x(e), x an own class of exceptions -/
def mkM (c f : Str) (C : Addr) (m : M D) : M D := bnd m fun d => ret (.exc c f C d)
theorem ap_mkM (c f : Str) (C : Addr) (m : M D) (s : DSt) : mkM c f C m s = bnd m (fun d => ret (.exc c f C d)) s := rfl
theorem dv_mk {m : M D} {cn : Str} (T : ExF X.K X.mg x C f) (Kx : ExK X.K C f) (hr : Room 2 X.A) (hv : DV X ec E e m) (hg : Gl X x) (hdb : (x == ("__debug__" : Str)) = false)
    (hst : starEach (e :: []) X.env = (false, eval e X.env) :: starEach [] X.env) (hpl : (backTo pos (starEach [] X.env)).any (·.1) = false) : DV X ec E (.Call (.Name x p) [e] [] pos) (mkM cn f C m) := by
  obtain ⟨t, h1, h2⟩ := hv.run
  obtain ⟨fI, fd, i1, i2, F, hb⟩ := T.ini
  refine DV.mk0 (pe_oexV T.ox i1 i2 (F X.prog X.w X.base) hr hb .nil pass0 hg T.gC (pa_cons h1 pa_nil hst) hdb hst hpl) fun σ H s Q hR hm => ?_
  show t σ H _
  refine h2 σ H s _ hR (hm.bnd.imp fun d s1 H1 _ e1 R1 S1 hk v hv => ?_)
  show [v].length ≤ 1000 ∧ _
  refine ⟨by simp, fun a ha => ⟨a, v, rfl, upd_same, fun dx n ne => ⟨rfl, dx, [(f, v)], upd_same, ?_, ?_, fun oe hz hf => ?_⟩⟩⟩
  · rw [upd_ne ne, upd_same]
  · rw [upd_ne ne] at n
    exact n
  · have n1 : H1 dx = none := by rw [upd_ne ne] at n; exact n
    rw [upd_del ha ne]
    have na : (upd H1 dx (.xd [(f, v)])) a = none := by rw [upd_ne (fun z => ne z.symm)]; exact ha
    have evo : Evo noA H1 (upd (upd H1 dx (.xd [(f, v)])) a (.frz oe uT)) := (Evo.new n1).trans0 (Evo.new na)
    refine hk.ret _ (evo.mono fun _ z => z.elim) (R1.toRel0.evo0 evo) _ ?_
    show At X.K _ (.exc cn f C d) (.ref a)
    unfold At
    exact ⟨a, dx, oe, v, rfl, ⟨⟨Kx, upd_same⟩, ⟨hz.1, hz.2, hf⟩, by rw [upd_ne ne, upd_same]⟩, At.ext evo.ext _ _ hv⟩
/-- e.f -/
def fldX (f : Str) : D → Option D
  | .exc _ g _ d => if g = f then some d else none
  | _ => none
def fldM (f : Str) (m : M D) : M D := bnd m fun d => lift (fldX f d)
theorem ap_fldM (f : Str) (m : M D) (s : DSt) : fldM f m s = bnd m (fun d => lift (fldX f d)) s := rfl
theorem dv_fldX {m : M D} (hv : DV X ec E e m) (hb : attributeBase e f X.env (eval e X.env) = eval e X.env) : DV X ec E (.Attribute e f pos) (fldM f m) := by
  obtain ⟨t, h1, h2⟩ := hv.run
  have hp : PE X (.Attribute e f pos) (fun σ H Q => t σ H fun x H1 => ∃ (a dx C : Addr) (oe : Obj) (v : V), x = .ref a ∧ ((ExK X.K C f ∧ H1 a = some (.frz oe uT)) ∧ (oe.cls = .ref C ∧ oe.dict = some dx ∧ ∃ vs, oe.data = .fields vs) ∧ H1 dx = some (.xd [(f, v)])) ∧ Q v H1) := by
    refine ⟨fun pins s σ H Q I h => ?_⟩
    refine attr_of hb (thn (h1.run pins s σ H _ I h) fun u s1 hh => ?_)
    obtain ⟨x, H1, I1, rx, a, dx, C, oe, v, ex, ⟨⟨Kx, ha⟩, ⟨hz, hdx, hf⟩, hd⟩, q⟩ := hh
    subst ex
    obtain rfl : u = Value.ref a := rx
    obtain ⟨mA, hns, hr⟩ := (show ObjOk X.prog X.w H1 s1.heap dx (.xd [(f, v)]) from I1.hok dx _ hd)
    obtain ⟨od, ho, hl⟩ := lookIn_ns hns
    obtain ⟨hget, _⟩ := (show ObjOk X.prog X.w H1 s1.heap a (.frz oe uT) from I1.hok a _ ha)
    obtain ⟨vs, hv⟩ := hf
    have J : PySem.W.InstAt s1.heap a oe C (some od) := ⟨hget, hz, by unfold PySem.W.notCls; rw [hv] <;> rfl, by rw [hdx]; exact ho⟩
    obtain ⟨u, hu, ru⟩ := RelO.some_of (v := v) (o := mA f) (by have := hr f; simpa [List.lookup] using this)
    exact HandSPX.exc_get I1.kIn J Kx.xf.ga Kx.xf.gg Kx.xf.exC (PySem.W.findObj_own Kx.xf.hdC Kx.noF rfl (by rw [hl, hu])) (handed_of ru) ⟨v, H1, I1.tok _, ru, q⟩
  refine DV.mk0 hp fun σ H s Q hR hm => ?_
  refine h2 σ H s _ hR (hm.bnd.imp fun d s1 H1 _ e1 R1 S1 hk v hv => ?_)
  obtain ⟨r, hr, hk2⟩ := hk.lift
  cases d with
  | exc cn g C d =>
    rw [fldX] at hr
    split at hr
    · rename_i eg
      cases hr
      subst eg
      unfold At at hv
      obtain ⟨a, dx, oe, y, rfl, h3, h5⟩ := hv
      exact ⟨a, dx, C, oe, y, rfl, h3, hk2 H1 .refl R1.toRel0 _ h5⟩
    · cases hr
  | _ => cases hr
/-- isinstance(e, T), e an own exception -/
def isXD (ce : EC) (l : List (Str × Bool)) : D → Option D
  | .exc c f C _ => if ce c = some (C, f) then (l.lookup c).map D.bl else none
  | _ => none
def isXM (ce : EC) (l : List (Str × Bool)) (m : M D) : M D := bnd m fun d => lift (isXD ce l d)
theorem ap_isXM (ce : EC) (l : List (Str × Bool)) (m : M D) (s : DSt) : isXM ce l m s = bnd m (fun d => lift (isXD ce l d)) s := rfl
theorem call_isXV {X : Cx} : CallR X (.builtin "isinstance") (fun xs H Q => ∃ (a dx C : Addr) (oe : Obj) (f : Str) (y c : V) (cv : Value) (b : Bool), xs = [.ref a, c] ∧ (∀ u, RelV c u → u = cv) ∧ PySem.W.kitOne X.K (.ref C) cv = some b ∧ ((ExK X.K C f ∧ H a = some (.frz oe uT)) ∧ (oe.cls = .ref C ∧ oe.dict = some dx ∧ ∃ vs, oe.data = .fields vs) ∧ H dx = some (.xd [(f, y)])) ∧ Q (.bl b) H) := by
  intro pins s σ H xs us Q I r h
  obtain ⟨a, dx, C, oe, f, y, c, cv, b, rfl, hcv, e, ⟨⟨k, ha⟩, ⟨hz, hdx, hf⟩, hd⟩, q⟩ := h
  obtain ⟨u1, u2, rfl, r1, r2⟩ := vals2 r
  cases (show u1 = Value.ref a from r1)
  have ecv := hcv _ r2
  subst ecv
  have J := inst_at I ha hz hdx hf hd
  have hcl : (PySem.W.clsIn X.K C).isSome = true := by
    obtain ⟨cd, hc, _⟩ := PySem.W.any_some k.ic.hd
    rw [hc]
    rfl
  exact PySem.W.kia_one (PySem.W.kitx_exc hcl k.ic.hg k.ic.hk k.ic.hs k.ic.ha k.ic.hn k.ic.ht k.ic.hm) I.kIn J.choose_spec e (fun z => nomatch z) fun tk => ⟨.bl b, H, I.tok tk, rfl, q⟩
theorem dv_isX {m : M D} {t : Str} {c : V} {cv : Value} {q : Pos} {ce : EC} {l : List (Str × Bool)} {p2 : Pos} (hv : DV X ec E e m) (hg : Gl X "isinstance") (hm : X.mg "isinstance" = none) (ht : PE X (.Name t q) (tC c)) (hcv : ∀ u, RelV c u → u = cv) (hk : ∀ (c : Str) (C : Addr) (f : Str) (b : Bool), ce c = some (C, f) → l.lookup c = some b → PySem.W.kitOne X.K (.ref C) cv = some b)
    (hs1 : starEach [e, .Name t q] X.env = (false, eval e X.env) :: starEach [.Name t q] X.env) (hs2 : starEach [.Name t q] X.env = (false, eval (.Name t q) X.env) :: starEach [] X.env) (hpl : (backTo pos (starEach [.Name t q] X.env)).any (·.1) = false) :
    DV X ec E (.Call (.Name "isinstance" p2) [e, .Name t q] [] pos) (isXM ce l m) := by
  obtain ⟨te, h1, h2⟩ := hv.run
  refine DV.mk0 (pe_callB call_isXV hg hm (by decide +kernel) (pa_cons h1 (pa_cons ht pa_nil hs2) hs1) (by decide) (by decide) hs1 hpl) fun σ H s Q hR hm => ?_
  refine h2 σ H s _ hR (hm.bnd.imp fun d s1 H1 _ e1 R1 S1 hk2 v hv => ?_)
  obtain ⟨r, hr, hk2⟩ := hk2.lift
  cases d with
  | exc cn g C d =>
    have hr : (if ce cn = some (C, g) then (l.lookup cn).map D.bl else none) = some r := hr
    split at hr
    · rename_i hce
      obtain ⟨b, hb, rfl⟩ := Option.map_eq_some_iff.mp hr
      unfold At at hv
      obtain ⟨a, dx, oe, y, rfl, h3, h5⟩ := hv
      exact ⟨a, dx, C, oe, g, y, c, cv, b, rfl, hcv, hk _ _ _ _ hce hb, h3, hk2 H1 .refl R1.toRel0 _ rfl⟩
    · cases hr
  | _ => cases hr
end
end Dt

end
section
set_option maxRecDepth 100000
set_option autoImplicit false
set_option maxHeartbeats 4000000
/-! try: .. except T as e: x = e, what is caught is kept. -/
namespace Dt
open PySem PySem.Spec PyProof.Rows L2
section
variable {X : Cx} {pins : List (Addr × Obj)} {σ : L2.St} {H : Hp} {s : Shared}
/-- an object that stands is tracked from now on -/
theorem Inv.adopt {a : Addr} {oe : Obj} (I : Inv X pins σ H s) (ho : s.heap.get? a = some oe) (hc : ∀ v, oe.data ≠ .cell v) (hn : H a = none) (h0 : X.s_0.heap.get? a = none) (nL : a ≠ X.env.locals) (nP : ∀ p ∈ X.pn ++ pins, p.1 ≠ a) :
    Inv X pins σ (upd H a (.frz oe uT)) s := by
  refine { I with base := ?_, free := ?_, freeC := ?_, pin := ?_, hok := ?_ }
  · exact {
      keep := I.base.keep
      slot := I.base.slot
      free := fun b o e n hx => by
        rw [upd_ne (fun z => by rw [z, h0] at e; cases e)]
        exact I.base.free b o e n hx
      there := I.base.there
      tups := fun b xs e => by
        have q := I.base.tups b xs e
        rw [upd_ne (ne_of_none q hn)]; exact q
      frzs := fun b o u e => by
        have q := I.base.frzs b o u e
        rw [upd_ne (ne_of_none q hn)]; exact q
      tbls := fun b ps e => by
        obtain ⟨m, q⟩ := I.base.tbls b ps e
        exact ⟨m, by rw [upd_ne (ne_of_none q hn)]; exact q⟩ }
  · rw [upd_ne (fun z => nL z.symm)]
    exact I.free
  · intro x c e
    obtain ⟨v, o, q1, q2⟩ := I.cell x c e
    rw [upd_ne (fun z => by rw [z, ho] at q1; cases q1; exact hc _ q2)]
    exact I.freeC x c e
  · intro p hp
    obtain ⟨q1, q2, q3⟩ := I.pin p hp
    exact ⟨q1, by rw [upd_ne (nP p hp)]; exact q2, q3⟩
  · exact I.hok.laidN (fun _ _ z => z) hn (frzT_ok ho)
end
/-- what is wished of the body's exceptions -/
def wKeep (K : PySem.W.Frag) (Wout : WX) (D : Ends) (cs : List Value) (i j : Nat) : WX := fun cls d σ H => ∃ b, PySem.W.exmAny K cls cs = some b ∧
  (b = true → ∀ (a : Addr) (oe : Obj), H a = none → Zc cls d oe → (∃ vs, oe.data = .fields vs) → i < σ.length ∧ D.nx (((σ.set i (some (.ref a))).set j (some (.ref a))).set i none) (upd H a (.frz oe uT))) ∧ (b = false → Wout cls d σ H)
section
variable {X : Cx} {body : List Stmt} {pos pos' px pn0 pa : Pos} {tb : WX → TS} {Wout : WX} {te : Expr} {nn x : Str} {i j : Nat} {cs : List Value}
theorem ps_try_keep (hs : X.stack = X.env :: X.outer) (hf : X.env.frame = some X.env.locals) (hex : X.ex = []) (hN : X.N.Nodup) (tk : Takes X Wout)
    (hb : ∀ (W : WX) (pn : List (Addr × Obj)) (xe : Value → Shared → Prop), Takes (X.tr pn xe) W → PassesOwn (model X.prog X.w) X.A X.env xe → PSs (X.tr pn xe) body (tb W))
    (ht : TestOk X te cs) (hi : X.N[i]? = some nn) (hln : X.env.kindOf nn = some .local) (hj : X.N[j]? = some x) (hlx : Loc X.env.scope x) (hv : Vis X.env.scope nn) (hd : (nn == ("__debug__" : Str)) = false) (hcd : (nn == ("__classdict__" : Str)) = false)
    (hsw : swapsWith (.Name nn pn0) (some (.Name x px)) pa.line X.env = pure false) (hfn : X.fn x = true ∨ X.env.scope.names.lookup x = some .local) :
    PS X (.Try body [.ExceptHandler (some te) (some nn) [.Assign [.Name x px] (.Name nn pn0) pa] pos'] [] [] pos) (fun D σ H => tb (wKeep X.K Wout D cs i j) D σ H) := by
  refine ⟨fun pins s σ H D I h => ?_⟩
  have ok := I.ok
  have hfr : X.A.frames = some (X.env :: X.outer) := by rw [ok.frames, hs]
  refine wpAny_Try_except ?_
  refine wpAny_mono ((hb (wKeep X.K Wout D cs i j) (X.pn ++ pins) (fun e s₁ => wpAny (model X.prog X.w) X.A (noteFrame e X.env) (fun _ s₂ => wpAny (model X.prog X.w) X.A (setFlight e none) (fun _ s₃ =>
    wpAny (model X.prog X.w) X.A (handleBy e X.env [.ExceptHandler (some te) (some nn) [.Assign [.Name x px] (.Name nn pn0) pa] pos']) (SP X pins D) X.xe s₃) X.xe s₂) X.xe s₁) (fun u s' xx => ?_) PassesOwn.looking).run [] s σ H D (I.toTry _) h) (fun f s1 hsp => ?_) (fun e s1 he => he)
  · obtain ⟨a, B, sI, pins', σ', H', cls, d, rfl, J', nb, up, sky, na, os, ag, w⟩ := xx
    have J : Inv X pins σ' H' sI := J'.ofTry ok
    have sky' : Sky B (X.env :: X.outer) a (Zc cls d) X.env.locals s'.heap := by rw [← hs]; exact sky
    show wpAny (model X.prog X.w) X.A (noteFrame (.ref a) X.env) _ _ _
    refine Sky.land Zc.steady hfr hf sky' fun h4 fl up3 => ?_
    have up4 := up.trans up3
    obtain ⟨b, hb1, hyes, hno⟩ := w
    have J4 : Inv X pins σ' H' { s' with heap := h4 } := J.landed nb fl.1 up4 os ag
    obtain ⟨oe4, vs4, he4, hz4, hd4⟩ := fl.there
    have nfr : a ∉ frs (X.env :: X.outer) := fun hm => by
      obtain ⟨_, o', e', hnf⟩ := fl.2.2.1.mem hm
      rw [he4] at e'
      cases e'
      exact hnf _ hd4
    have nL : a ≠ X.env.locals := fun z => nfr (List.mem_filterMap.mpr ⟨X.env, List.mem_cons_self, by rw [hf, z]⟩)
    have nF : a ∉ X.fs := fun hm => by
      obtain ⟨e, he, q⟩ := List.mem_filterMap.mp hm
      exact nfr (List.mem_filterMap.mpr ⟨e, List.mem_cons_of_mem _ he, q⟩)
    have nI : sI.heap.get? a = none := by
      cases c : sI.heap.get? a with
      | none => rfl
      | some o =>
        have q := nb a o c (by rw [hs]; exact nfr)
        rw [fl.2.1] at q
        cases q
    have n0 : X.s_0.heap.get? a = none := by
      cases c : X.s_0.heap.get? a with
      | none => rfl
      | some o =>
        obtain ⟨o', q⟩ := J.base.there a o c (by rw [hex]; simp)
        rw [nI] at q
        cases q
    have nP : ∀ p ∈ X.pn ++ pins, p.1 ≠ a := fun p hp z => by
      have q := (J.pin p hp).1
      rw [z, nI] at q
      cases q
    have S4 := J4.suite he4 hd4 na nL nF
    have LT : PySem.W.Looks (model X.prog X.w) h4 (typeOf (.ref a)) cls := fun A Q E s k q => wpAny_typeOf_ref (k _ _ he4) (by rw [hz4.1]; exact q)
    refine wpAny_handleBy_cons (codeAny_handlers_test ?_) (by intro q; cases q)
    refine ht a oe4 (X.pn ++ pins) [] _ _ _ cls b _ _ S4 LT hb1 fun h5 k5 => ?_
    have fl5 := flying_keep fl k5
    have up5 : sI.heap.UpToSlots h5 := up4.trans (Heap.UpToSlots.of_keeps k5)
    cases b with
    | false =>
      refine wpAny_handleBy_nil ?_
      obtain ⟨k1, k2, k3, oe, vs, T, oT, ts', he, hz, hd, h1, hr⟩ := id fl5
      unfold PySem.passOn
      refine wpAny_bind (wpAny_field he hd h1 ?_)
      rw [if_neg (show ¬ ((Value.ref T == Value.none) = true) from by simp)]
      have fin : wpAny (model X.prog X.w) X.A (setFlight (.ref a) X.env.frame) (fun _ s4 => wpAny (model X.prog X.w) X.A (throw (.ref a) : Sem PySem.Flow) (SP X pins D) X.xe s4) X.xe { s' with heap := h5 } := by
        rw [hf]
        refine HandSPX.setFlight_upZ fl5 fun h6 hh6 up6 => wpAny_throw (tk _ _ ?_)
        exact ⟨a, B, sI, pins, σ', H', cls, d, rfl, J, nb, up5.trans up6, .inr (.inr (by rw [hs]; exact hh6)), na, os, ag, hno rfl⟩
      first
        | exact wpAny_bind (wpAny_pure (wpAny_bind fin))
        | exact wpAny_bind fin
    | true =>
      have hloc : Loc X.env.scope nn := .inl hln
      refine codeAny_handlers_suite_as ?_
      refine HandSPX.lands_againZ fl5 fun h6 fl6 up6 => ?_
      have J6 : Inv X pins σ' H' { s' with heap := h6 } := J.landed nb fl6.1 (up5.trans up6) os ag
      obtain ⟨oe6, vs6, he6, hz6, hd6⟩ := fl6.there
      have S6 := J6.suite he6 hd6 na nL nF
      obtain ⟨hil, hy⟩ := hyes rfl a oe6 na hz6 ⟨_, hd6⟩
      refine store_ok (X := X.suite a ((a, oe6) :: (X.pn ++ pins))) (v := .ref a) S6 hN hi hloc rfl (fun s6 S6' => ?_) (.inr hln)
      have su : PSs (X.suite a ((a, oe6) :: (X.pn ++ pins))) [.Assign [.Name x px] (.Name nn pn0) pa] _ := pss_one (ps_set (X := X.suite a ((a, oe6) :: (X.pn ++ pins))) hN hj hlx (pe_var (X := X.suite a ((a, oe6) :: (X.pn ++ pins))) hi hv hd hcd) hsw hfn)
      refine wpAny_mono (su.run [] s6 _ H' { nx := fun σ2 H2 => σ2 = (σ'.set i (some (.ref a))).set j (some (.ref a)) ∧ H2 = H', rt := fun _ _ => False, bk := fun _ _ => False, ct := fun _ _ => False } S6' ⟨.ref a, List.getElem?_set_self hil, rfl, rfl⟩) (fun f s7 hsp => ?_) (fun _ _ z => False.elim z)
      cases f with
      | next =>
        obtain ⟨σ7, H7, S7, q7, q8⟩ := hsp
        subst q7
        subst q8
        refine gone_ok (X := X.suite a ((a, oe6) :: (X.pn ++ pins))) S7 hN hi hln fun s8 S8 => ?_
        have p8 := (S8.pin (a, oe6) (List.mem_append_left _ List.mem_cons_self)).1
        exact ⟨_, _, Inv.adopt (S8.unsuite ok) p8 (fun v z => by rw [hd6] at z; cases z) na n0 nL nP, hy⟩
      | ret u => obtain ⟨_, _, _, _, _, z⟩ := hsp; exact z.elim
      | brk => obtain ⟨_, _, _, z⟩ := hsp; exact z.elim
      | cont => obtain ⟨_, _, _, z⟩ := hsp; exact z.elim
  · cases f with
    | next =>
      obtain ⟨σ', H', J', q⟩ := hsp
      exact wpAny_execs_nil ⟨σ', H', J'.ofTry ok, q⟩
    | brk =>
      obtain ⟨σ', H', J', q⟩ := hsp
      exact ⟨σ', H', J'.ofTry ok, q⟩
    | cont =>
      obtain ⟨σ', H', J', q⟩ := hsp
      exact ⟨σ', H', J'.ofTry ok, q⟩
    | ret u =>
      obtain ⟨v, σ', H', J', r, q⟩ := hsp
      exact ⟨v, σ', H', J'.ofTry ok, r, q⟩
end
theorem Bounded.newFrzT {K : PySem.W.Frag} {H : Hp} {p : Addr} {oe : Obj} (b : Bounded K H) (hp : H p = none) : Bounded K (upd H p (.frz oe uT)) := by
  have rd : ∀ {a : Addr} {u : HO}, u ≠ .frz oe uT → u ≠ uT → Rd (upd H p (.frz oe uT)) a u → Rd H a u := fun {a u} hu hu2 h => by
    rcases h with h | ⟨o, h⟩
    · by_cases z : a = p
      · rw [z, upd_same] at h
        exact absurd (Option.some.inj h).symm hu
      · rw [upd_ne z] at h
        exact .inl h
    · by_cases z : a = p
      · rw [z, upd_same] at h
        have := Option.some.inj h
        injection this with _ e2
        exact absurd e2.symm hu2
      · rw [upd_ne z] at h
        exact .inr ⟨o, h⟩
  have n1 : ∀ u : HO, (∀ φ, u ≠ .ext φ) → u ≠ uT := fun u h z => h _ z
  refine ⟨fun a xs h => b.seq a xs ?_, fun a es h => b.dK a es (rd (by intro z; cases z) (n1 _ (by intro φ z; cases z)) h), fun a es h => b.dT a es (rd (by intro z; cases z) (n1 _ (by intro φ z; cases z)) h)⟩
  rcases h with (h | h) | (h | h)
  · exact .inl (.inl (rd (by intro z; cases z) (n1 _ (by intro φ z; cases z)) h))
  · exact .inl (.inr h)
  · exact .inr (.inl (rd (by intro z; cases z) (n1 _ (by intro φ z; cases z)) h))
  · exact .inr (.inr h)
/-- try: b except ..: x = e -/
def tryK (b : MS) (tk : Str → Bool) (ce : EC) (i j : Nat) : MS := fun s => match b s with
  | some (.ex c d, s') => if tk c = true then (match ce c with
    | some (C, f) => if i < s'.length then some (.nx, (s'.set i none).set j (some (.val (.exc c f C d)))) else none
    | none => none) else some (.ex c d, s')
  | o => o
section
variable {X : Cx} {ec : EC} {E : L2.WX} {ow : List Nat} {body : List Stmt} {mb : MS} {pos pos' px pn0 pa : Pos} {te : Expr} {nn x : Str} {i j : Nat} {cs : List Value} {tk0 : Str → Bool}
theorem ds_tryK (hs : X.stack = X.env :: X.outer) (hf : X.env.frame = some X.env.locals) (hex : X.ex = []) (hN : X.N.Nodup) (tk : Takes X E)
    (hb : ∀ (W : WX) (pn : List (Addr × Obj)) (xe : Value → Shared → Prop), Takes (X.tr pn xe) W → PassesOwn (model X.prog X.w) X.A X.env xe → DSs (X.tr pn xe) ec W ow body mb)
    (ht : TestOk X te cs) (hx : ∀ x C f, ec x = some (C, f) → PySem.W.exmAny X.K (.ref C) cs = some (tk0 x)) (hK : ∀ x C f, ec x = some (C, f) → ExK X.K C f) (hio : i ∉ ow) (hjo : j ∉ ow) (hij : i ≠ j)
    (hi : X.N[i]? = some nn) (hln : X.env.kindOf nn = some .local) (hj : X.N[j]? = some x) (hlx : Loc X.env.scope x) (hv : Vis X.env.scope nn) (hd : (nn == ("__debug__" : Str)) = false) (hcd : (nn == ("__classdict__" : Str)) = false)
    (hsw : swapsWith (.Name nn pn0) (some (.Name x px)) pa.line X.env = pure false) (hfn : X.fn x = true ∨ X.env.scope.names.lookup x = some .local) :
    DS X ec E ow (.Try body [.ExceptHandler (some te) (some nn) [.Assign [.Name x px] (.Name nn pn0) pa] pos'] [] [] pos) (tryK mb tk0 ec i j) := by
  refine ⟨_, ps_try_keep (tb := semT X ec ow mb) hs hf hex hN tk (fun W pn xe t q => ?_) ht hi hln hj hlx hv hd hcd hsw hfn, fun c k1 k2 k3 k4 σ H s D0 R hm => ?_⟩
  · obtain ⟨t', h1, h2⟩ := (hb W pn xe t q).run
    refine psS_weak h1 fun D0 σ H ⟨c, s, k1, k2, k3, k4, R, hm⟩ => h2 c k1 k2 k3 k4 σ H s D0 R hm
  · refine ⟨{ c with E := wKeep X.K E D0 cs i j }, s, k1, k2, rfl, k4, R.ent rfl rfl rfl rfl rfl, ?_⟩
    unfold tryK at hm
    cases e : mb s with
    | none => rw [e] at hm; exact hm
    | some p =>
      obtain ⟨fl, s'⟩ := p
      rw [e] at hm
      cases fl with
      | nx => exact fun σ' H' ex R' => hm σ' H' ex (R'.ent rfl rfl rfl rfl rfl)
      | bk => exact fun σ' H' ex R' => hm σ' H' ex (R'.ent rfl rfl rfl rfl rfl)
      | ct => exact fun σ' H' ex R' => hm σ' H' ex (R'.ent rfl rfl rfl rfl rfl)
      | rt r => exact fun v σ' H' ex R' hv => hm v σ' H' ex (R'.ent rfl rfl rfl rfl rfl) hv
      | ex k d =>
        refine fun cls dx σ' H' ex R' he => ?_
        have R0 : RelS c σ' H' s' := R'.ent rfl rfl rfl rfl rfl
        have he0 := he
        obtain ⟨C, f, av, v, g1, g2, g3, g4, g5⟩ := he
        have g1' : ec k = some (C, f) := by rw [← k2]; exact g1
        subst g2
        refine ⟨tk0 k, hx k C f g1', fun hb a oe na hz hfd => ?_, fun hb => ?_⟩
        · dsimp only at hm
          rw [if_pos hb, g1'] at hm
          dsimp only at hm
          by_cases hl : i < s'.length
          · rw [if_pos hl] at hm
            have ne : av ≠ a := fun z => by rw [z, na] at g4; cases g4
            have evo : Evo noA H' (upd H' a (.frz oe uT)) := Evo.new na
            have R1 : RelS c σ' (upd H' a (.frz oe uT)) s' := R0.step (evo.mono fun _ z => z.elim) ⟨R0.toRel0.evo0 evo, R0.bnd.newFrzT na⟩ (Sub.refl _)
            have R2 : RelS c (σ'.set i none) (upd H' a (.frz oe uT)) (s'.set i none) := R1.forget (by rw [k4]; exact hio)
            have hat : At c.K (upd H' a (.frz oe uT)) (.exc k f C d) (.ref a) := by
              unfold At
              exact ⟨a, av, oe, v, rfl, ⟨⟨by rw [k1]; exact hK k C f g1', upd_same⟩, ⟨hz.1, by rw [hz.2, g3], hfd⟩, by rw [upd_ne ne]; exact g4⟩, At.ext evo.ext _ _ g5⟩
            have R3 : RelS c ((σ'.set i none).set j (some (.ref a))) (upd H' a (.frz oe uT)) ((s'.set i none).set j (some (.val (.exc k f C d)))) := R2.set (by rw [k4]; exact hjo) (r := .val (.exc k f C d)) hat fun o _ _ => by cases o
            have eσ : ((σ'.set i (some (.ref a))).set j (some (.ref a))).set i none = (σ'.set i none).set j (some (.ref a)) := by
              rw [List.set_comm (some (V.ref a)) (some (V.ref a)) hij, List.set_set, List.set_comm none (some (V.ref a)) hij]
            refine ⟨by rw [← R0.len]; exact hl, ?_⟩
            rw [eσ]
            exact hm _ _ (ex.trans evo.ext) R3
          · rw [if_neg hl] at hm
            exact hm.elim
        · dsimp only at hm
          rw [hb, if_neg Bool.false_ne_true] at hm
          rw [← k3]
          exact hm _ dx σ' H' ex R0 he0
end
end Dt

end
section
set_option autoImplicit false
/-! what the printed meanings come to, step by step -/
namespace Dt
open PySem L2

section
variable {α β : Type} {s : DSt}
theorem ap_bnd (m : M α) (f : α → M β) : bnd m f s = (match m s with
  | none => none
  | some (.ok a, s') => f a s'
  | some (.err c d, s') => some (.err c d, s')) := rfl
theorem ap_ret (a : α) : Dt.ret a s = some (.ok a, s) := rfl
theorem ap_fail : (fail : M α) s = none := rfl
theorem ap_lift (a : α) : lift (some a) s = some (.ok a, s) := rfl
theorem ap_lift0 : lift (none : Option α) s = none := rfl
theorem ap_hasSlot (i : Nat) : hasSlot i s = (match s[i]? with
  | some (some _) => some (.ok .non, s)
  | _ => none) := rfl
theorem ap_rdSlot (i : Nat) : rdSlot i s = (match s[i]? with
  | some (some r) => some (.ok r.d, s)
  | _ => none) := rfl
theorem ap_eName (i : Nat) : eName i s = (match s[i]? with
  | some (some (.val d)) => some (.ok d, s)
  | some (some (.own d)) => some (.ok d, s.set i (some (.val d)))
  | _ => none) := rfl
theorem st_v (m : M D) : (Opd.v m).start = m := rfl
theorem st_slot (i : Nat) : (Opd.slot i).start = hasSlot i := rfl
theorem rd_v (m : M D) (d : D) : (Opd.v m).read d = Dt.ret d := rfl
theorem rd_slot (i : Nat) (d : D) : (Opd.slot i).read d = rdSlot i := rfl
theorem ap_binV (g : D → D → Option D) (o p : Opd) : binV g o p s = bnd o.start (fun x => bnd p.start fun y => bnd (o.read x) fun d => bnd (p.read y) fun e => lift (g d e)) s := rfl
theorem ap_bin2 (g : D → D → Option RV) (o p : Opd) : bin2 g o p s = bnd o.start (fun x => bnd p.start fun y => bnd (o.read x) fun d => bnd (p.read y) fun e => lift (g d e)) s := rfl
theorem ap_binT (g : D → D → Option D) (o p : Opd) : Dt.binT g o p s = bnd o.start (fun x => bnd p.start fun y => bnd (o.read x) fun d => bnd (p.read y) fun e => lift ((g d e).bind blOf)) s := rfl
theorem ap_callV (g : List D → Option D) (os : List Opd) : callV g os s = bnd (starts os) (fun xs => bnd (reads os xs) fun ds => lift (g ds)) s := rfl
theorem ap_callN (g : List D → Option RV) (os : List Opd) : callN g os s = bnd (starts os) (fun xs => bnd (reads os xs) fun ds => lift (g ds)) s := rfl
theorem ap_callI (g : List D → Option (List D)) (os : List Opd) : callI g os s = bnd (starts os) (fun xs => bnd (reads os xs) fun ds => lift (g ds)) s := rfl
theorem starts_nil : starts [] = Dt.ret [] := rfl
theorem starts_cons (o : Opd) (os : List Opd) : starts (o :: os) = bnd o.start fun d => bnd (starts os) fun ds => Dt.ret (d :: ds) := rfl
theorem reads_nil (ds : List D) : reads [] ds = Dt.ret [] := rfl
theorem reads_cons (o : Opd) (os : List Opd) (d : D) (ds : List D) : reads (o :: os) (d :: ds) = bnd (o.read d) fun c => bnd (reads os ds) fun cs => Dt.ret (c :: cs) := rfl
theorem ap_consM (m : M D) (ms : M (List D)) : consM m ms s = bnd m (fun d => bnd ms fun ds => Dt.ret (d :: ds)) s := rfl
theorem ap_tupM (ms : M (List D)) : tupM ms s = bnd ms (fun ds => if ds.length ≤ 1000 then Dt.ret (.tup ds) else fail) s := rfl
theorem ap_lstM (ms : M (List D)) : lstM ms s = bnd ms (fun ds => if ds.length ≤ 1000 then Dt.ret (.own (.lst ds)) else fail) s := rfl
theorem ap_frz (m : M RV) : frz m s = bnd m (fun r => Dt.ret r.d) s := rfl
theorem ap_andT (m n : M Bool) : andT m n s = bnd m (fun b => if b = true then n else Dt.ret false) s := rfl
theorem ap_orT (m n : M Bool) : orT m n s = bnd m (fun b => if b = true then Dt.ret true else n) s := rfl
theorem ap_notT (m : M Bool) : notT m s = bnd m (fun b => Dt.ret (!b)) s := rfl
theorem ap_andV (m n : M D) : andV m n s = bnd m (fun d => bnd (lift (blOf d)) fun b => if b = true then n else Dt.ret (.bl false)) s := rfl
theorem ap_orV (m n : M D) : orV m n s = bnd m (fun d => bnd (lift (blOf d)) fun b => if b = true then Dt.ret (.bl true) else n) s := rfl
theorem ap_notV (m : M D) : notV m s = bnd m (fun d => bnd (lift (blOf d)) fun b => Dt.ret (.bl (!b))) s := rfl
theorem ap_ifM (m : M Bool) (x y : M α) : ifM m x y s = bnd m (fun b => if b = true then x else y) s := rfl
theorem ap_opdT (o : Opd) : opdT o s = bnd o.start (fun x => bnd (o.read x) fun d => lift (truD d)) s := rfl
theorem ap_isiV (T : String) (o : Opd) : isiV T o s = bnd o.start (fun x => bnd (o.read x) fun d => Dt.ret (.bl (isiB (clsD d) T))) s := rfl
theorem ap_iterV (m : M D) : iterV m s = bnd m (fun d => lift (seqD d)) s := rfl
theorem ap_iterL (g : List D → Option (List D)) (ms : M (List D)) : iterL g ms s = bnd ms (fun ds => lift (g ds)) s := rfl
theorem ap_ite {c : Prop} [Decidable c] (m n : M α) : (if c then m else n) s = if c then m s else n s := by split <;> rfl
theorem ap_tstM (m : M D) : tstM m s = bnd m (fun d => lift (blOf d)) s := rfl
theorem ap_methW (o : Opd) (T : String) (ms : M (List D)) (g : D → List D → Option α) : methW o T ms g s = bnd o.start (fun x => bnd (o.read x) fun d0 => if clsD d0 = T then bnd ms fun ds => bnd (o.read x) fun d => lift (g d ds) else fail) s := rfl
theorem ap_mutM (i : Nat) (T : String) (ms : M (List D)) (g : D → List D → Option (D × D)) : mutM i T ms g s = (match s[i]? with
  | some (some (.own d)) => if clsD d = T then bnd ms (mutE i g) s else none
  | _ => none) := rfl
theorem ap_mutE (i : Nat) (g : D → List D → Option (D × D)) (ds : List D) : mutE i g ds s = (match s[i]? with
  | some (some (.own d)) => (match g d ds with
    | some (d', r) => some (.ok r, s.set i (some (.own d')))
    | none => none)
  | _ => none) := rfl
theorem ap_somM (m : M D) : somM m s = bnd m (fun d => bnd (lift (intOf d)) fun i => Dt.ret (some i)) s := rfl
theorem ap_sliceM (o : Opd) (lo hi : M (Option Int)) : sliceM o lo hi s = bnd o.start (fun x => bnd lo fun l => bnd hi fun h => bnd (o.read x) fun d => lift (sliceD d l h)) s := rfl
theorem ap_chainV (g h : D → D → Option D) (o p q : Opd) : chainV g h o p q s = bnd o.start (fun x => bnd p.start fun y => bnd (o.read x) fun d => bnd (p.read y) fun e => bnd (lift ((g d e).bind blOf)) fun b => if b = true then bnd q.start fun z => bnd (p.read y) fun e => bnd (q.read z) fun f => lift (h e f) else Dt.ret (.bl false)) s := rfl
/-! calls -/
theorem ap_callF (f : M RV) (as : List Arg) : callF f as s = bnd (startsA as) (fun rs s => match f (argsOf s as rs) with
  | none => none
  | some (q, xs) => some (q, back as xs s)) s := rfl
theorem startsA_nil : startsA [] = Dt.ret [] := rfl
theorem startsA_cons (a : Arg) (as : List Arg) : startsA (a :: as) = bnd a.start fun r => bnd (startsA as) fun rs => Dt.ret (r :: rs) := rfl
theorem sa_v (m : M D) : (Arg.v m).start = bnd m fun d => Dt.ret (.val d) := rfl
theorem sa_slot (i : Nat) : (Arg.slot i).start = bnd (hasSlot i) fun _ => Dt.ret (.val .non) := rfl
theorem sa_new (m : M RV) : (Arg.new m).start = m := rfl
theorem argsOf_nil : argsOf s [] [] = [] := rfl
theorem argsOf_cons (a : Arg) (as : List Arg) (r : RV) (rs : List RV) : argsOf s (a :: as) (r :: rs) = argOf s a r :: argsOf s as rs := rfl
theorem argOf_v (m : M D) (r : RV) : argOf s (.v m) r = some r := rfl
theorem argOf_new (m : M RV) (r : RV) : argOf s (.new m) r = some r := rfl
theorem argOf_slot (i : Nat) (r : RV) : argOf s (.slot i) r = (s[i]?).join := rfl
theorem back_nil (xs : DSt) : back [] xs s = s := by unfold back; rfl
theorem back_slot (i : Nat) (as : List Arg) (x : Option RV) (xs : DSt) : back (.slot i :: as) (x :: xs) s = back as xs (s.set i x) := rfl
theorem back_v (m : M D) (as : List Arg) (x : Option RV) (xs : DSt) : back (.v m :: as) (x :: xs) s = back as xs s := rfl
theorem back_new (m : M RV) (as : List Arg) (x : Option RV) (xs : DSt) : back (.new m :: as) (x :: xs) s = back as xs s := rfl
/-! statements -/
theorem ap_bndS (m : M α) (k : α → MS) : bndS m k s = (match m s with
  | none => none
  | some (.ok a, s') => k a s'
  | some (.err c d, s') => some (.ex c d, s')) := rfl
theorem ap_seqS (m n : MS) : seqS m n s = (match m s with
  | none => none
  | some (.nx, s') => n s'
  | some (o, s') => some (o, s')) := rfl
theorem ap_nxS : nxS s = some (.nx, s) := rfl
theorem ap_exprS (m : M α) : exprS m s = bndS m (fun _ => nxS) s := rfl
theorem ap_retS (m : M RV) : retS m s = bndS m (fun r s => some (.rt r, s)) s := rfl
theorem ap_moveS (i : Nat) : moveS i s = (match s[i]? with
  | some (some r) => some (.rt r, s)
  | _ => none) := rfl
theorem ap_ifS (m : M Bool) (x y : MS) : ifS m x y s = (match m s with
  | none => none
  | some (.ok b, s') => if b = true then x s' else y s'
  | some (.err c d, s') => some (.ex c d, s')) := by
  unfold ifS bndS
  cases m s with
  | none => rfl
  | some p =>
    obtain ⟨r, s'⟩ := p
    cases r with
    | err _ _ => rfl
    | ok b => cases b <;> rfl
theorem ap_setS (i : Nat) (m : M RV) : setS i m s = (match m s with
  | none => none
  | some (.ok r, s') => if i < s'.length then some (.nx, s'.set i (some r)) else none
  | some (.err c d, s') => some (.ex c d, s')) := by
  unfold setS bndS
  rcases m s with _ | ⟨_ | _, _⟩ <;> rfl
theorem ap_asgS (f : Tg) (m : M D) : asgS f m s = (match m s with
  | none => none
  | some (.ok d, s') => (match f.go d s' with
    | none => none
    | some s' => some (.nx, s'))
  | some (.err c d, s') => some (.ex c d, s')) := by
  unfold asgS bndS
  rcases m s with _ | ⟨_ | _, _⟩ <;> rfl
theorem ap_forS (f : Tg) (m : M (List D)) (b : MS) : forS f m b s = (match m s with
  | none => none
  | some (.ok ds, s') => forM f b ds s'
  | some (.err c d, s') => some (.ex c d, s')) := by
  unfold forS bndS
  rcases m s with _ | ⟨_ | _, _⟩ <;> rfl
theorem ap_storeS (i : Nat) (mv mk : M D) : storeS i mv mk s = bndS mv (fun v => bndS (hasSlot i) fun _ => bndS mk fun k => storeE i v k) s := rfl
theorem ap_storeE (i : Nat) (v k : D) : storeE i v k s = (match s[i]? with
  | some (some (.own d)) => (match setG d k v with
    | some d' => some (.nx, s.set i (some (.own d')))
    | none => none)
  | _ => none) := rfl
theorem ap_lcM (vs : List Nat) (f : Tg) (mi : M (List D)) (t : M Bool) (el : M D) : lcM vs f mi t el s = bnd mi (fun ds s => match lcGo vs f t el ds (wipeD s vs) with
  | some (.ok ys, s') => some (.ok (.own (.lst ys)), s')
  | _ => none) s := rfl
theorem go_name (i : Nat) (d : D) : (Tg.name i).go d s = if i < s.length then some (s.set i (some (.val d))) else none := by unfold Tg.go; rfl
theorem go_tup (ts : List Tg) (ds : List D) : (Tg.tup ts).go (.tup ds) s = Tg.gos ts ds s := by rw [Tg.go]
theorem gos_nil : Tg.gos [] [] s = some s := by unfold Tg.gos; rfl
theorem gos_cons (t : Tg) (ts : List Tg) (d : D) (ds : List D) : Tg.gos (t :: ts) (d :: ds) s = (match t.go d s with
  | some s' => Tg.gos ts ds s'
  | none => none) := by
  rw [Tg.gos]
  all_goals (cases t.go d s <;> rfl)
theorem wipe_nil : wipeD s [] = s := rfl
theorem wipe_cons (v : Nat) (vs : List Nat) : wipeD s (v :: vs) = (wipeD s vs).set v none := rfl
end

/-! ### statements, one by one -/
section
variable {s s1 : DSt} {m n : MS} {r : Option (Flow × DSt)}
theorem seq_nx (h : m s = some (.nx, s1)) (h2 : n s1 = r) : seqS m n s = r := by rw [ap_seqS, h]; exact h2
theorem seq_rt {v : RV} (h : m s = some (.rt v, s1)) : seqS m n s = some (.rt v, s1) := by rw [ap_seqS, h]
theorem seq_ex {c : Str} {d : D} (h : m s = some (.ex c d, s1)) : seqS m n s = some (.ex c d, s1) := by rw [ap_seqS, h]
theorem seq_ct (h : m s = some (.ct, s1)) : seqS m n s = some (.ct, s1) := by rw [ap_seqS, h]
theorem seq_bk (h : m s = some (.bk, s1)) : seqS m n s = some (.bk, s1) := by rw [ap_seqS, h]
theorem if_t {c : M Bool} (h : c s = some (.ok true, s1)) (h2 : m s1 = r) : ifS c m n s = r := by rw [ap_ifS, h]; exact h2
theorem if_f {c : M Bool} (h : c s = some (.ok false, s1)) (h2 : n s1 = r) : ifS c m n s = r := by rw [ap_ifS, h]; exact h2
theorem if_b {c : M Bool} {b : Bool} (h : c s = some (.ok b, s1)) (h2 : b = true → m s1 = r) (h3 : b = false → n s1 = r) : ifS c m n s = r := by
  cases b with
  | true => exact if_t h (h2 rfl)
  | false => exact if_f h (h3 rfl)
theorem for_nx {f : Tg} {mi : M (List D)} {b : MS} {ds : List D} (h : mi s = some (.ok ds, s1)) (h2 : forM f b ds s1 = r) : forS f mi b s = r := by rw [ap_forS, h]; exact h2
theorem set_nx {i : Nat} {e : M RV} {v : RV} (h : e s = some (.ok v, s1)) (hi : i < s1.length) (h2 : some (Flow.nx, s1.set i (some v)) = r) : setS i e s = r := by rw [ap_setS, h]; simp only [if_pos hi]; exact h2
theorem ret_rt {e : M RV} {v : RV} (h : e s = some (.ok v, s1)) : retS e s = some (.rt v, s1) := by rw [ap_retS, ap_bndS, h]
theorem expr_nx {α : Type} {e : M α} {a : α} (h : e s = some (.ok a, s1)) : exprS e s = some (.nx, s1) := by rw [ap_exprS, ap_bndS, h]; rfl
theorem fn_rt {k : Nat} {ow : List Nat} {b : MS} {rs out : DSt} {v : RV} (h : b (entD ow 0 rs ++ List.replicate (k - rs.length) none) = some (.rt v, s1)) (ho : outD ow 0 rs s1 = out) : fnM k ow b rs = some (.ok v, out) := by unfold fnM; rw [h, ← ho]
theorem fn_nx {k : Nat} {ow : List Nat} {b : MS} {rs out : DSt} (h : b (entD ow 0 rs ++ List.replicate (k - rs.length) none) = some (.nx, s1)) (ho : outD ow 0 rs s1 = out) : fnM k ow b rs = some (.ok (.val .non), out) := by unfold fnM; rw [h, ← ho]
theorem atI_pos {α : Type} {l : List α} {k : Int} (d : α) (h : 0 ≤ k) (h2 : k < l.length) : atI l k = some (l.getD k.toNat d) := by
  obtain ⟨n, rfl⟩ := Int.eq_ofNat_of_zero_le h
  have hl : n < l.length := by omega
  rw [atI_nat (v := l[n]) (by simp [hl])]
  simp [List.getD, hl]
end
/-! ### comprehensions, loops over typed items -/
inductive All2 {X Y : Type} (R : X → Y → Prop) : List X → List Y → Prop where
  | nil : All2 R [] []
  | cons {x : X} {y : Y} {xs : List X} {ys : List Y} (h : R x y) (t : All2 R xs ys) : All2 R (x :: xs) (y :: ys)
/-- one turn of a comprehension -/
def lc1 (vs : List Nat) (f : Tg) (t : M Bool) (el : M D) (d : D) (s : DSt) : Option (Option D × DSt) := match f.go d s with
  | none => none
  | some s1 => match t s1 with
    | some (.ok b, s2) => if b = true then (match el s2 with
      | some (.ok y, s3) => some (some y, wipeD s3 vs)
      | _ => none) else some (none, wipeD s2 vs)
    | _ => none
/-- one turn of a loop -/
def for1 (f : Tg) (b : MS) (d : D) (s : DSt) : Option DSt := match f.go d s with
  | none => none
  | some s1 => match b s1 with
    | some (.nx, s2) => some s2
    | some (.ct, s2) => some s2
    | _ => none
section
variable {X : Type} {enc : X → D} {s : DSt}
theorem ap_lc1 (vs : List Nat) (f : Tg) (t : M Bool) (el : M D) (d : D) (s : DSt) : lc1 vs f t el d s = (match f.go d s with
  | none => none
  | some s1 => match t s1 with
    | some (.ok b, s2) => if b = true then (match el s2 with
      | some (.ok y, s3) => some (some y, wipeD s3 vs)
      | _ => none) else some (none, wipeD s2 vs)
    | _ => none) := rfl
theorem ap_for1 (f : Tg) (b : MS) (d : D) (s : DSt) : for1 f b d s = (match f.go d s with
  | none => none
  | some s1 => match b s1 with
    | some (.nx, s2) => some s2
    | some (.ct, s2) => some s2
    | _ => none) := rfl
theorem lcGo_cons {vs : List Nat} {f : Tg} {t : M Bool} {el : M D} {d : D} {ds : List D} {s s' : DSt} {y : D} (h : lc1 vs f t el d s = some (some y, s')) : lcGo vs f t el (d :: ds) s = (match lcGo vs f t el ds s' with
  | some (.ok ys, s4) => some (.ok (y :: ys), s4)
  | _ => none) := by
  unfold lc1 at h
  show (match f.go d s with
    | none => none
    | some s1 => match t s1 with
      | some (.ok false, s2) => lcGo vs f t el ds (wipeD s2 vs)
      | some (.ok true, s2) => match el s2 with
        | some (.ok y, s3) => match lcGo vs f t el ds (wipeD s3 vs) with
          | some (.ok ys, s4) => some (.ok (y :: ys), s4)
          | _ => none
        | _ => none
      | _ => none) = _
  cases e1 : f.go d s with
  | none => rw [e1] at h; cases h
  | some s1 =>
    rw [e1] at h
    dsimp only at h ⊢
    rcases e2 : t s1 with _ | ⟨b | _, s2⟩
    · rw [e2] at h; cases h
    · rw [e2] at h
      dsimp only at h
      cases b with
      | false => cases h
      | true =>
        rw [if_pos rfl] at h
        dsimp only
        rcases e3 : el s2 with _ | ⟨z | _, s3⟩
        · rw [e3] at h; cases h
        · rw [e3] at h
          cases h
          rfl
        · rw [e3] at h; cases h
    · rw [e2] at h; cases h
theorem lcGo_skip {vs : List Nat} {f : Tg} {t : M Bool} {el : M D} {d : D} {ds : List D} {s s' : DSt} (h : lc1 vs f t el d s = some (none, s')) : lcGo vs f t el (d :: ds) s = lcGo vs f t el ds s' := by
  unfold lc1 at h
  cases e1 : f.go d s with
  | none => rw [e1] at h; cases h
  | some s1 =>
    rw [e1] at h
    dsimp only at h
    rcases e2 : t s1 with _ | ⟨b | _, s2⟩
    · rw [e2] at h; cases h
    · rw [e2] at h
      dsimp only at h
      cases b with
      | false =>
        rw [if_neg Bool.false_ne_true] at h
        cases h
        show (match f.go d s with
          | none => none
          | some s1 => match t s1 with
            | some (.ok false, s2) => lcGo vs f t el ds (wipeD s2 vs)
            | some (.ok true, s2) => match el s2 with
              | some (.ok y, s3) => match lcGo vs f t el ds (wipeD s3 vs) with
                | some (.ok ys, s4) => some (.ok (y :: ys), s4)
                | _ => none
              | _ => none
            | _ => none) = _
        rw [e1]
        dsimp only
        rw [e2]
      | true =>
        rw [if_pos rfl] at h
        rcases e3 : el s2 with _ | ⟨z | _, s3⟩
        · rw [e3] at h; cases h
        · rw [e3] at h; cases h
        · rw [e3] at h; cases h
    · rw [e2] at h; cases h
theorem lcGo_map {vs : List Nat} {f : Tg} {t : M Bool} {el : M D} (g : X → D) : ∀ (xs : List X), (∀ x ∈ xs, lc1 vs f t el (enc x) s = some (some (g x), s)) → lcGo vs f t el (xs.map enc) s = some (.ok (xs.map g), s)
  | [], _ => rfl
  | x :: xs, h => by
    rw [List.map_cons, lcGo_cons (h x List.mem_cons_self), lcGo_map g xs fun y hy => h y (List.mem_cons_of_mem _ hy)]
    rfl
theorem lcGo_filter {vs : List Nat} {f : Tg} {t : M Bool} {el : M D} (p : X → Bool) (g : X → D) : ∀ (xs : List X), (∀ x ∈ xs, lc1 vs f t el (enc x) s = some (if p x = true then some (g x) else none, s)) → lcGo vs f t el (xs.map enc) s = some (.ok ((xs.filter p).map g), s)
  | [], _ => rfl
  | x :: xs, h => by
    have h1 := h x List.mem_cons_self
    have ih := lcGo_filter p g xs fun y hy => h y (List.mem_cons_of_mem _ hy)
    cases e : p x with
    | false =>
      rw [e, if_neg Bool.false_ne_true] at h1
      rw [List.map_cons, lcGo_skip h1, ih, List.filter_cons_of_neg (by rw [e]; exact Bool.false_ne_true)]
    | true =>
      rw [e, if_pos rfl] at h1
      rw [List.map_cons, lcGo_cons h1, ih, List.filter_cons_of_pos e]
      rfl
/-- with a state that is carried: the invariant I -/
theorem lcGo_inv {vs : List Nat} {f : Tg} {t : M Bool} {el : M D} (I : DSt → Prop) (R : X → D → Prop) : ∀ (xs : List X) (s : DSt), I s → (∀ x ∈ xs, ∀ s, I s → ∃ y s', lc1 vs f t el (enc x) s = some (some y, s') ∧ R x y ∧ I s') →
    ∃ ys s', lcGo vs f t el (xs.map enc) s = some (.ok ys, s') ∧ I s' ∧ All2 R xs ys
  | [], s, hi, _ => ⟨[], s, rfl, hi, .nil⟩
  | x :: xs, s, hi, h => by
    obtain ⟨y, s1, h1, h2, h3⟩ := h x List.mem_cons_self s hi
    obtain ⟨ys, s', h4, h5, h6⟩ := lcGo_inv I R xs s1 h3 fun z hz => h z (List.mem_cons_of_mem _ hz)
    exact ⟨y :: ys, s', by rw [List.map_cons, lcGo_cons h1, h4], h5, .cons h2 h6⟩
theorem forM_cons {f : Tg} {b : MS} {d : D} {ds : List D} {s s' : DSt} (h : for1 f b d s = some s') : forM f b (d :: ds) s = forM f b ds s' := by
  unfold for1 at h
  show (match f.go d s with
    | none => none
    | some s1 => match b s1 with
      | none => none
      | some (.nx, s2) => forM f b ds s2
      | some (.ct, s2) => forM f b ds s2
      | some (.bk, s2) => some (.nx, s2)
      | some (o, s2) => some (o, s2)) = _
  cases e1 : f.go d s with
  | none => rw [e1] at h; cases h
  | some s1 =>
    rw [e1] at h
    dsimp only at h ⊢
    rcases e2 : b s1 with _ | ⟨fl, s2⟩
    · rw [e2] at h; cases h
    · rw [e2] at h
      cases fl <;> cases h <;> rfl
/-- a loop: the state behind the items taken -/
theorem forM_pre {f : Tg} {b : MS} (st : List X → DSt) : ∀ (post pre : List X), (∀ (pre : List X) (x : X), for1 f b (enc x) (st pre) = some (st (pre ++ [x]))) → forM f b (post.map enc) (st pre) = some (.nx, st (pre ++ post))
  | [], pre, _ => by rw [List.append_nil]; rfl
  | x :: post, pre, h => by
    rw [List.map_cons, forM_cons (h pre x), forM_pre st post (pre ++ [x]) h, List.append_assoc]
    rfl
/-- a loop by an invariant over what is taken; all is the whole -/
theorem forM_inv {f : Tg} {b : MS} (I : List X → DSt → Prop) (all : List X) : ∀ (post pre : List X) (s : DSt), pre ++ post = all → I pre s → (∀ (pre : List X) (x : X) (post : List X) (s : DSt), pre ++ x :: post = all → I pre s → ∃ s', for1 f b (enc x) s = some s' ∧ I (pre ++ [x]) s') →
    ∃ s', forM f b (post.map enc) s = some (.nx, s') ∧ I all s'
  | [], pre, s, e, hi, _ => ⟨s, rfl, by rw [List.append_nil] at e; subst e; exact hi⟩
  | x :: post, pre, s, e, hi, h => by
    obtain ⟨s1, h1, h2⟩ := h pre x post s e hi
    obtain ⟨s', h4, h5⟩ := forM_inv I all post (pre ++ [x]) s1 (by rw [List.append_assoc]; exact e) h2 h
    exact ⟨s', by rw [List.map_cons, forM_cons h1]; exact h4, h5⟩
end
theorem lc_ok {vs : List Nat} {f : Tg} {mi : M (List D)} {t : M Bool} {el : M D} {s s1 s2 : DSt} {ds ys : List D} (h : mi s = some (.ok ds, s1)) (h2 : lcGo vs f t el ds (wipeD s1 vs) = some (.ok ys, s2)) : lcM vs f mi t el s = some (.ok (.own (.lst ys)), s2) := by
  rw [ap_lcM, ap_bnd, h]
  dsimp only
  rw [h2]
theorem lc_frz {vs : List Nat} {f : Tg} {mi : M (List D)} {t : M Bool} {el : M D} {s s1 s2 : DSt} {ds ys : List D} (h : mi s = some (.ok ds, s1)) (h2 : lcGo vs f t el ds (wipeD s1 vs) = some (.ok ys, s2)) : frz (lcM vs f mi t el) s = some (.ok (.lst ys), s2) := by
  rw [ap_frz, ap_bnd, lc_ok h h2]
  rfl
theorem bnd_ok {α β : Type} {m : M α} {f : α → M β} {s s1 : DSt} {a : α} {r : Option (Res β × DSt)} (h : m s = some (.ok a, s1)) (h2 : f a s1 = r) : bnd m f s = r := by rw [ap_bnd, h]; exact h2
theorem enumL_map {X : Type} (enc : X → D) : ∀ (xs : List X) (i : Nat), enumL i (xs.map enc) = (xs.zipIdx i).map fun p => .tup [.int ((p.2 : Nat) : Int), enc p.1]
  | [], _ => rfl
  | x :: xs, i => by rw [List.map_cons, enumL, enumL_map enc xs (i + 1)]; rfl
theorem flat_len {X Y : Type} (f : X → List Y) (n : Nat) : ∀ (xs : List X), (∀ x ∈ xs, (f x).length ≤ n) → (xs.map f).flatten.length ≤ n * xs.length
  | [], _ => by simp
  | x :: xs, h => by
    have ih := flat_len f n xs fun y hy => h y (List.mem_cons_of_mem _ hy)
    have h1 := h x List.mem_cons_self
    rw [List.map_cons, List.flatten_cons, List.length_append, List.length_cons, Nat.mul_succ]
    omega
theorem pick4 (a b c d : D) (k : Int) (h0 : 0 ≤ k) (h1 : k < 4) : ∃ x, atI [a, b, c, d] k = some x ∧ (x = a ∨ x = b ∨ x = c ∨ x = d) := by
  have e : k = 0 ∨ k = 1 ∨ k = 2 ∨ k = 3 := by omega
  rcases e with rfl | rfl | rfl | rfl
  · exact ⟨a, rfl, .inl rfl⟩
  · exact ⟨b, rfl, .inr (.inl rfl)⟩
  · exact ⟨c, rfl, .inr (.inr (.inl rfl))⟩
  · exact ⟨d, rfl, .inr (.inr (.inr rfl))⟩
theorem pick2 (a b : D) (k : Int) (h0 : 0 ≤ k) (h1 : k < 2) : ∃ x, atI [a, b] k = some x ∧ (x = a ∨ x = b) := by
  have e : k = 0 ∨ k = 1 := by omega
  rcases e with rfl | rfl
  · exact ⟨a, rfl, .inl rfl⟩
  · exact ⟨b, rfl, .inr rfl⟩
theorem rangeD_map : ∀ (n : Nat) (lo : Int), rangeD lo n = (List.range n).map fun k => .int (lo + (k : Nat))
  | 0, _ => rfl
  | n + 1, lo => by
    rw [rangeD, rangeD_map n, List.range_succ_eq_map, List.map_cons, List.map_map]
    congr 1
    · simp
    · refine List.map_congr_left fun k _ => ?_
      show D.int _ = D.int _
      congr 1
      simp
      omega
theorem range_at {j : Int} {n : Nat} (h : j = n) (hn : n ≤ 1000000) : rng1 [.int j] = some ((List.range n).map fun k => .int ((k : Nat) : Int)) := by
  subst h
  show (if -(2 ^ 60) ≤ (n : Int) ∧ (n : Int) ≤ 1000000 then some (rangeD 0 (n : Int).toNat) else none) = _
  rw [if_pos (by omega), rangeD_map, Int.toNat_natCast]
  simp
theorem pow10 (j : Int) : powOk 10 j = (decide (0 ≤ j) && decide (j ≤ 1000000)) := by
  unfold powOk
  rw [show decide ((10 : Int).natAbs < 2 ^ 64) = true from by decide, Bool.and_true]
theorem pow2 (j : Int) : powOk 2 j = (decide (0 ≤ j) && decide (j ≤ 1000000)) := by
  unfold powOk
  rw [show decide ((2 : Int).natAbs < 2 ^ 64) = true from by decide, Bool.and_true]
theorem atI_mem {X Y : Type} (f : X → Y) {xs : List X} {k : Int} (h0 : 0 ≤ k) (h1 : k < xs.length) : ∃ x, x ∈ xs ∧ xs[k.toNat]? = some x ∧ atI (xs.map f) k = some (f x) := by
  obtain ⟨n, rfl⟩ := Int.eq_ofNat_of_zero_le h0
  have hn : n < xs.length := by omega
  refine ⟨xs[n], List.getElem_mem _, by simp [hn], ?_⟩
  exact atI_nat (by simp [hn])
/-! ### the operations on what is known -/
section
variable {α : Type}
theorem at0 (x : α) (l : List α) : atI (x :: l) 0 = some x := atI_nat (j := 0) rfl
theorem at1 (x y : α) (l : List α) : atI (x :: y :: l) 1 = some y := atI_nat (j := 1) rfl
theorem at2 (x y z : α) (l : List α) : atI (x :: y :: z :: l) 2 = some z := atI_nat (j := 2) rfl
theorem at3 (x y z w : α) (l : List α) : atI (x :: y :: z :: w :: l) 3 = some w := atI_nat (j := 3) rfl
theorem at4 (x y z w v : α) (l : List α) : atI (x :: y :: z :: w :: v :: l) 4 = some v := atI_nat (j := 4) rfl
end
theorem d_val (d : D) : (RV.val d).d = d := rfl
theorem d_own (d : D) : (RV.own d).d = d := rfl
theorem item_tup (ds : List D) (i : Int) : itemD (.tup ds) (.int i) = atI ds i := rfl
theorem item_lst (ds : List D) (i : Int) : itemD (.lst ds) (.int i) = atI ds i := rfl
theorem item_scr (ns : List Int) (i : Int) : itemD (.scr ns) (.int i) = (atI ns i).map .int := rfl
theorem item_str (z : Str) (i : Int) : itemD (.str z) (.int i) = if z.length ≤ sizeLine then (atI z.cps.toList i).map fun c => .str ⟨#[c]⟩ else none := rfl
theorem item_dicK (kvs : List (DK × D)) (x : Str) : itemD (.dic false kvs) (.str x) = lookD kvs (.str x) := rfl
theorem item_dicI (kvs : List (DK × D)) (i : Int) : itemD (.dic false kvs) (.int i) = lookD kvs (.int i) := rfl
theorem item_dicT (kvs : List (DK × D)) (ds : List D) : itemD (.dic true kvs) (.tup ds) = (keyD true (.tup ds)).bind fun κ => lookD kvs κ := rfl
theorem add_int (i j : Int) : addD (.int i) (.int j) = some (.val (.int (i + j))) := rfl
theorem add_str (x y : Str) : addD (.str x) (.str y) = if x.length + y.length ≤ sizeLine then some (.val (.str (x ++ y))) else none := rfl
theorem add_lst (a b : List D) : addD (.lst a) (.lst b) = if a.length + b.length ≤ sizeLine then some (.own (.lst (a ++ b))) else none := rfl
theorem add_tup (a b : List D) : addD (.tup a) (.tup b) = if a.length + b.length ≤ sizeLine then some (.val (.tup (a ++ b))) else none := rfl
theorem sub_int (i j : Int) : subD (.int i) (.int j) = some (.int (i - j)) := rfl
theorem mod_int (i j : Int) : modD (.int i) (.int j) = if 0 < j then some (.int (i % j)) else none := by
  show (if decide (0 < j) = true then _ else _) = _
  simp only [decide_eq_true_eq]
theorem div_int (i j : Int) : divD (.int i) (.int j) = if 0 < j ∧ j < 10000000000000000000000000000000000000000 then some (.int (i / j)) else none := by
  show (if divOk i j = true then _ else _) = _
  simp only [divOk, Bool.and_eq_true, decide_eq_true_eq]
theorem pow_int (i j : Int) : powD (.int i) (.int j) = if powOk i j = true then some (.int (i ^ j.toNat)) else none := rfl
theorem mul_int (i j : Int) : mulD (.int i) (.int j) = if mulOk i j = true then some (.val (.int (i * j))) else none := rfl
theorem lt_int (i j : Int) : ltD (.int i) (.int j) = some (.bl (decide (i < j))) := rfl
theorem le_int (i j : Int) : leD (.int i) (.int j) = some (.bl (decide (i ≤ j))) := rfl
theorem gt_int (i j : Int) : gtD (.int i) (.int j) = some (.bl (decide (j < i))) := rfl
theorem ge_int (i j : Int) : geD (.int i) (.int j) = some (.bl (decide (j ≤ i))) := rfl
theorem eq_int (i j : Int) : eqD (.int i) (.int j) = some (.bl (i == j)) := rfl
theorem ne_int (i j : Int) : neD (.int i) (.int j) = some (.bl (!(i == j))) := rfl
theorem eq_str (i j : Str) : eqD (.str i) (.str j) = some (.bl (i == j)) := rfl
theorem ne_str (i j : Str) : neD (.str i) (.str j) = some (.bl (!(i == j))) := rfl
theorem is_non (d : D) : isD d .non = some (.bl (isNon d)) := rfl
theorem isnot_non (d : D) : isnotD d .non = some (.bl (!isNon d)) := rfl
theorem bl_of (b : Bool) : blOf (.bl b) = some b := rfl
theorem int_of (i : Int) : intOf (.int i) = some i := rfl
theorem seq_lst (ds : List D) : seqD (.lst ds) = some ds := rfl
theorem seq_tup (ds : List D) : seqD (.tup ds) = some ds := rfl
theorem seq_scr (ns : List Int) : seqD (.scr ns) = some (ns.map .int) := rfl
theorem seq_dic (t : Bool) (kvs : List (DK × D)) : seqD (.dic t kvs) = some (kvs.map fun p => p.1.toD) := rfl
theorem tru_bl (b : Bool) : truD (.bl b) = some b := rfl
theorem tru_non : truD .non = some false := rfl
theorem tru_int (i : Int) : truD (.int i) = some (i != 0) := rfl
theorem tru_lst (ds : List D) : truD (.lst ds) = some (!ds.isEmpty) := rfl
theorem tru_tup (ds : List D) : truD (.tup ds) = some (!ds.isEmpty) := rfl
theorem len_str (x : Str) : lenD [.str x] = if x.length ≤ sizeLine then some (.int x.length) else none := rfl
theorem len_tup (ds : List D) : lenD [.tup ds] = some (.int ds.length) := rfl
theorem len_lst (ds : List D) : lenD [.lst ds] = some (.int ds.length) := rfl
theorem len_scr (ns : List Int) : lenD [.scr ns] = some (.int ns.length) := rfl
theorem len_dic (t : Bool) (kvs : List (DK × D)) : lenD [.dic t kvs] = some (.int kvs.length) := rfl
theorem abs_int (i : Int) : absD [.int i] = some (.int (if i < 0 then -i else i)) := rfl
theorem min_int (i j : Int) : minD [.int i, .int j] = some (.int (if j < i then j else i)) := rfl
theorem max_int (i j : Int) : maxD [.int i, .int j] = some (.int (if j > i then j else i)) := rfl
theorem int_bl (b : Bool) : intD [.bl b] = some (.int (if b then 1 else 0)) := rfl
theorem int_int (i : Int) : intD [.int i] = some (.int i) := rfl
theorem neg_int (i : Int) : negD (.int i) = some (.int (-i)) := rfl
theorem list_lst (ds : List D) : listD [.lst ds] = some (.own (.lst ds)) := rfl
theorem list_tup (ds : List D) : listD [.tup ds] = some (.own (.lst ds)) := rfl
theorem tuple_lst (ds : List D) : tupleD [.lst ds] = some (.tup ds) := rfl
theorem tuple_tup (ds : List D) : tupleD [.tup ds] = some (.tup ds) := rfl
theorem sum_lst (ds : List D) : sumL [.lst ds] = (intsD ds).map fun ns => .int ns.sum := rfl
theorem all_lst (ds : List D) : allD [.lst ds] = (blsD ds).map fun ns => .bl (ns.all id) := rfl
theorem any_lst (ds : List D) : anyD [.lst ds] = (blsD ds).map fun ns => .bl (ns.any id) := rfl
theorem cls_non : clsD .non = "NoneType" := rfl
theorem cls_bl (b : Bool) : clsD (.bl b) = "bool" := rfl
theorem cls_int (b : Int) : clsD (.int b) = "int" := rfl
theorem cls_str (b : Str) : clsD (.str b) = "str" := rfl
theorem cls_tup (b : List D) : clsD (.tup b) = "tuple" := rfl
theorem cls_lst (b : List D) : clsD (.lst b) = "list" := rfl
theorem cls_dic (t : Bool) (b : List (DK × D)) : clsD (.dic t b) = "dict" := rfl
theorem isi_same (c : String) : isiB c c = true := by unfold isiB; simp
theorem app_lst (ds : List D) (d : D) : appendG (.lst ds) [d] = if ds.length < 1000000 then some (.lst (ds ++ [d]), .non) else none := rfl
theorem ext_lst (ds es : List D) : extendG (.lst ds) [.lst es] = if ds.length + es.length ≤ 1000000 then some (.lst (ds ++ es), .non) else none := rfl
theorem rev_lst (ds : List D) : reverseG (.lst ds) [] = some (.lst ds.reverse, .non) := rfl
theorem clr_lst (ds : List D) : clearG (.lst ds) [] = some (.lst [], .non) := rfl
theorem enum_lst (ds : List D) : enumA [.lst ds] = some (enumL 0 ds) := rfl
theorem sl_lst (ds : List D) (lo hi : Option Int) : sliceD (.lst ds) lo hi = some (.own (.lst (cutD ds lo hi))) := rfl
theorem sl_scr (ns : List Int) (lo hi : Option Int) : sliceD (.scr ns) lo hi = some (.own (.lst ((cutD ns lo hi).map .int))) := rfl
theorem set_lst (ds : List D) (k : Int) (v : D) : setG (.lst ds) (.int k) v = (ixN ds.length k).map fun j => .lst (ds.set j v) := rfl
theorem set_dicK (kvs : List (DK × D)) (x : Str) (v : D) : setG (.dic false kvs) (.str x) v = if kvs.length < 1000000 then some (.dic false (putD kvs (.str x) v)) else none := rfl
theorem get_dicK (kvs : List (DK × D)) (x : Str) (v : D) : getG (.dic false kvs) [.str x, v] = some ((lookD kvs (.str x)).getD v) := rfl
/-! ### a list against itself -/
theorem noDics_of : ∀ {l : List D}, (∀ d ∈ l, noDic d = true) → noDics l = true
  | [], _ => rfl
  | d :: l, h => by
    have h1 := h d List.mem_cons_self
    have h2 := noDics_of (l := l) fun x hx => h x (List.mem_cons_of_mem _ hx)
    unfold noDics
    rw [h1, h2]
    rfl
theorem deepAll_le {n : Nat} : ∀ {l : List D}, (∀ d ∈ l, deepD d ≤ n) → deepAll l ≤ n
  | [], _ => Nat.zero_le _
  | d :: l, h => by
    have h1 := h d List.mem_cons_self
    have h2 := deepAll_le (n := n) (l := l) fun x hx => h x (List.mem_cons_of_mem _ hx)
    unfold deepAll
    omega
theorem eqOk_of {d e : D} (h1 : noDic d = true) (h2 : noDic e = true) (h3 : deepD d ≤ 64) : eqOk d e = true := by
  unfold eqOk
  rw [h1, h2, Bool.true_and, Bool.true_and]
  exact decide_eq_true (by omega)
theorem ne_self {d : D} (h1 : noDic d = true) (h2 : deepD d ≤ 64) : neD d d = some (.bl false) := by
  unfold neD
  rw [if_pos (eqOk_of h1 h1 h2), eqvD_refl d h1]
  rfl
theorem eq_self {d : D} (h1 : noDic d = true) (h2 : deepD d ≤ 64) : eqD d d = some (.bl true) := by
  unfold eqD
  rw [if_pos (eqOk_of h1 h1 h2), eqvD_refl d h1]
/-- tuples of numbers and texts -/
def atomB : D → Bool
  | .int _ => true
  | .str _ => true
  | _ => false
def flatB : D → Bool
  | .tup ds => ds.all atomB
  | _ => false
theorem atom_noDic {d : D} (h : atomB d = true) : noDic d = true ∧ deepD d = 0 := by
  cases d <;> first | exact ⟨rfl, rfl⟩ | cases h
theorem flat_tup {d : D} (h : flatB d = true) : ∃ ds, d = .tup ds := by
  cases d <;> first | exact ⟨_, rfl⟩ | cases h
theorem flat_noDic {d : D} (h : flatB d = true) : noDic d = true ∧ deepD d ≤ 1 := by
  obtain ⟨ds, rfl⟩ := flat_tup h
  have h : ds.all atomB = true := h
  rw [List.all_eq_true] at h
  refine ⟨by unfold noDic; exact noDics_of fun d hd => (atom_noDic (h d hd)).1, ?_⟩
  have := deepAll_le (n := 0) (l := ds) fun d hd => by rw [(atom_noDic (h d hd)).2]; exact Nat.le_refl _
  unfold deepD
  omega
theorem lst_noDic {l : List D} (h : ∀ d ∈ l, flatB d = true) : noDic (.lst l) = true ∧ deepD (.lst l) ≤ 2 := by
  refine ⟨by unfold noDic; exact noDics_of fun d hd => (flat_noDic (h d hd)).1, ?_⟩
  have := deepAll_le (n := 1) (l := l) fun d hd => (flat_noDic (h d hd)).2
  unfold deepD
  omega
end Dt

end
section
set_option autoImplicit false
namespace Dt
open PySem L2
theorem any_np {X : Type} {f : X → D} (h : ∀ x, isPr (f x) = false) (l : List X) : (l.map f).any isPr = false := by
  rw [List.any_map, List.any_eq_false]
  exact fun x _ => by rw [Function.comp, h]; decide
theorem zip_ll (a b : List D) (h : a.any isPr = false) : zipA [.lst a, .lst b] = some (zipL a b) := by
  show (if (a.any isPr && b.any isPr) = true then none else some (zipL a b)) = _
  rw [h, Bool.false_and, if_neg (by decide)]
theorem zip_lt (a b : List D) (h : a.any isPr = false) : zipA [.lst a, .tup b] = some (zipL a b) := by
  show (if (a.any isPr && b.any isPr) = true then none else some (zipL a b)) = _
  rw [h, Bool.false_and, if_neg (by decide)]
theorem zip_tl (a b : List D) (h : a.any isPr = false) : zipA [.tup a, .lst b] = some (zipL a b) := by
  show (if (a.any isPr && b.any isPr) = true then none else some (zipL a b)) = _
  rw [h, Bool.false_and, if_neg (by decide)]
theorem zip_tt (a b : List D) (h : a.any isPr = false) : zipA [.tup a, .tup b] = some (zipL a b) := by
  show (if (a.any isPr && b.any isPr) = true then none else some (zipL a b)) = _
  rw [h, Bool.false_and, if_neg (by decide)]
theorem zipL_map {X Y : Type} (f : X → D) (g : Y → D) : ∀ (xs : List X) (ys : List Y), zipL (xs.map f) (ys.map g) = (xs.zip ys).map fun p => .tup [f p.1, g p.2]
  | [], _ => rfl
  | _ :: _, [] => rfl
  | x :: xs, y :: ys => by rw [List.map_cons, List.map_cons, zipL, zipL_map f g xs ys]; rfl
theorem listE_lst (ds : List D) : listE [.lst ds] = some (.own (.lst ds)) := rfl
theorem listE_tup (ds : List D) : listE [.tup ds] = some (.own (.lst ds)) := rfl
theorem listE_dic (kvs : List (DK × D)) : listE [.dic false kvs] = some (.own (.lst (kvs.map fun p => p.1.toD))) := rfl
theorem dict_dic (kvs : List (DK × D)) : dictD [.dic false kvs] = some (.own (.dic false kvs)) := rfl
theorem dict_lst (ds : List D) : dictD [.lst ds] = (pairsD ds).map fun ps => .own (.dic false (mergeD [] ps)) := rfl
theorem sort_lst (ds : List D) : sortedD [.lst ds] = if sortOk ds = true then some (.own (.lst (ds.mergeSort sleD))) else if headOk ds = true then some (.own (.lst (ds.mergeSort leHd))) else none := rfl
theorem index_lst (ds : List D) (k : D) : indexG (.lst ds) [k] = if (flatD k && ds.all flatD) = true then (idxD k ds).map fun i => .int ((i : Nat) : Int) else none := rfl
theorem items_dic (m : M D) (s : DSt) : itemsM m s = bnd m (fun d => lift (itemsI d)) s := rfl
theorem values_dic (m : M D) (s : DSt) : valuesM m s = bnd m (fun d => lift (valuesI d)) s := rfl
theorem rev_m (m : M D) (s : DSt) : revM m s = bnd m (fun d => lift (revI d)) s := rfl
theorem itemsI_dic (kvs : List (DK × D)) : itemsI (.dic false kvs) = some (kvs.map fun p => .tup [p.1.toD, p.2]) := rfl
theorem valuesI_dic (kvs : List (DK × D)) : valuesI (.dic false kvs) = some (kvs.map fun p => p.2) := rfl
theorem revI_lst (ds : List D) : revI (.lst ds) = some ds.reverse := rfl
theorem revI_tup (ds : List D) : revI (.tup ds) = some ds.reverse := rfl
theorem toD_str (x : Str) : (DK.str x).toD = .str x := by simp [DK.toD]
theorem toD_int (x : Int) : (DK.int x).toD = .int x := by simp [DK.toD]
theorem log_small {n k : Nat} (h : n < 2 ^ k) (hk : 0 < k) : n.log2 < k := by
  by_cases e : n = 0
  · subst e; simpa using hk
  · exact (Nat.log2_lt e).mpr h
theorem mul_small {i j : Int} (h : i.natAbs < 2 ^ 400000) (q : j.natAbs < 2 ^ 400000) : mulOk i j = true := by
  have a := log_small h (by omega)
  have b := log_small q (by omega)
  unfold mulOk
  rw [decide_eq_true (by omega)]
  rfl
theorem small_pow {n : Nat} (h : n < 2 ^ 64) : n < 2 ^ 400000 := Nat.lt_of_lt_of_le h (Nat.pow_le_pow_right (by omega) (by omega))
theorem mul_nat {i j : Int} (h : i.natAbs < 2 ^ 64) (q : j.natAbs < 2 ^ 64) : mulOk i j = true := mul_small (small_pow h) (small_pow q)
theorem idx_at {X : Type} (f : X → D) (k : D) : ∀ (xs : List X) (i : Nat) (x : X), xs[i]? = some x → eqvD (f x) k = true → (∀ (j : Nat) (y : X), j < i → xs[j]? = some y → eqvD (f y) k = false) → idxD k (xs.map f) = some i
  | [], i, x, h, _, _ => by simp at h
  | z :: zs, 0, x, h, q, _ => by
    cases h
    rw [List.map_cons, idxD, if_pos q]
  | z :: zs, i + 1, x, h, q, n => by
    rw [List.map_cons, idxD, if_neg (by rw [n 0 z (by omega) rfl]; exact Bool.false_ne_true), idx_at f k zs i x (by simpa using h) q fun j y hj hy => n (j + 1) y (by omega) (by simpa using hy)]
    rfl
theorem zip_ints {X : Type} : ∀ (xs : List X) (i : Nat), (List.range' i xs.length).map (fun k => D.int ((k : Nat) : Int)) = (xs.zipIdx i).map fun p => D.int ((p.2 : Nat) : Int)
  | [], _ => rfl
  | x :: xs, i => by
    rw [List.length_cons, List.range'_succ, List.map_cons, zip_ints xs (i + 1)]
    rfl
theorem zip_ints0 {X : Type} (xs : List X) : (List.range xs.length).map (fun k => D.int ((k : Nat) : Int)) = (xs.zipIdx 0).map fun p => D.int ((p.2 : Nat) : Int) := by
  rw [List.range_eq_range', zip_ints]
theorem lc1_seq {X : Type} {enc : X → D} {vs : List Nat} {f : Tg} {t : M Bool} {el : M D} {s : DSt} (p : X → Bool) (g : X → D) (xs : List X) (h : ∀ x ∈ xs, lc1 vs f t el (enc x) s = some (if p x = true then some (g x) else none, s)) : lcGo vs f t el (xs.map enc) s = some (.ok ((xs.filter p).map g), s) := lcGo_filter p g xs h
end Dt

end
section
set_option autoImplicit false
namespace Dt
open PySem L2
/-! ### an end with a wish -/
def Ok {α : Type} (o : Option (Res α × DSt)) (Q : α → DSt → Prop) : Prop := match o with
  | some (.ok a, s) => Q a s
  | _ => False
def OkS (o : Option (Flow × DSt)) (Q : Flow → DSt → Prop) : Prop := match o with
  | some (f, s) => Q f s
  | _ => False
def Ok1 (o : Option DSt) (Q : DSt → Prop) : Prop := match o with
  | some s => Q s
  | _ => False
def OkC (o : Option (Option D × DSt)) (Q : D → DSt → Prop) : Prop := match o with
  | some (some d, s) => Q d s
  | _ => False
theorem ok_some {α : Type} {a : α} {s : DSt} {Q : α → DSt → Prop} : Ok (some (.ok a, s)) Q = Q a s := rfl
theorem okS_some {f : Flow} {s : DSt} {Q : Flow → DSt → Prop} : OkS (some (f, s)) Q = Q f s := rfl
theorem ok1_some {s : DSt} {Q : DSt → Prop} : Ok1 (some s) Q = Q s := rfl
theorem okC_some {d : D} {s : DSt} {Q : D → DSt → Prop} : OkC (some (some d, s)) Q = Q d s := rfl
theorem Ok.ex {α : Type} {o : Option (Res α × DSt)} {Q : α → DSt → Prop} (h : Ok o Q) : ∃ a s, o = some (.ok a, s) ∧ Q a s := by
  unfold Ok at h
  split at h
  · exact ⟨_, _, rfl, h⟩
  · exact h.elim
theorem OkS.ex {o : Option (Flow × DSt)} {Q : Flow → DSt → Prop} (h : OkS o Q) : ∃ f s, o = some (f, s) ∧ Q f s := by
  unfold OkS at h
  split at h
  · exact ⟨_, _, rfl, h⟩
  · exact h.elim
theorem Ok1.ex {o : Option DSt} {Q : DSt → Prop} (h : Ok1 o Q) : ∃ s, o = some s ∧ Q s := by
  unfold Ok1 at h
  split at h
  · exact ⟨_, rfl, h⟩
  · exact h.elim
theorem OkC.ex {o : Option (Option D × DSt)} {Q : D → DSt → Prop} (h : OkC o Q) : ∃ d s, o = some (some d, s) ∧ Q d s := by
  unfold OkC at h
  split at h
  · exact ⟨_, _, rfl, h⟩
  · exact h.elim
theorem Ok.imp {α : Type} {o : Option (Res α × DSt)} {Q Q' : α → DSt → Prop} (h : Ok o Q) (i : ∀ a s, Q a s → Q' a s) : Ok o Q' := by
  obtain ⟨a, s, e, q⟩ := h.ex
  rw [e]
  exact i a s q
section
variable {X : Type} {enc : X → D} {s : DSt}
/-- a loop over all, by an invariant over what is taken -/
theorem for_ok {f : Tg} {b : MS} (I : List X → DSt → Prop) (all : List X) (s : DSt) (h0 : I [] s) (h : ∀ (pre : List X) (x : X) (post : List X) (s : DSt), pre ++ x :: post = all → I pre s → Ok1 (for1 f b (enc x) s) (I (pre ++ [x]))) :
    ∃ s', forM f b (all.map enc) s = some (.nx, s') ∧ I all s' :=
  forM_inv I all all [] s rfl h0 fun pre x post s e i => (h pre x post s e i).ex
/-- a comprehension, by an invariant of the state and a relation -/
theorem lc_all {vs : List Nat} {f : Tg} {t : M Bool} {el : M D} (I : DSt → Prop) (R : X → D → Prop) (xs : List X) (s : DSt) (hi : I s) (h : ∀ x ∈ xs, ∀ s, I s → OkC (lc1 vs f t el (enc x) s) fun y s' => R x y ∧ I s') :
    ∃ ys s', lcGo vs f t el (xs.map enc) s = some (.ok ys, s') ∧ I s' ∧ All2 R xs ys :=
  lcGo_inv I R xs s hi fun x hx s hs => by
    obtain ⟨d, s', e, a, b⟩ := (h x hx s hs).ex
    exact ⟨d, s', e, a, b⟩
end
/-- one turn, with whatever end -/
def for2 (f : Tg) (b : MS) (d : D) (s : DSt) : Option (Flow × DSt) := match f.go d s with
  | none => none
  | some s1 => b s1
theorem ap_for2 (f : Tg) (b : MS) (d : D) (s : DSt) : for2 f b d s = (match f.go d s with
  | none => none
  | some s1 => b s1) := rfl
theorem forM_cons2 (f : Tg) (b : MS) (d : D) (ds : List D) (s : DSt) : forM f b (d :: ds) s = (match for2 f b d s with
  | none => none
  | some (.nx, s2) => forM f b ds s2
  | some (.ct, s2) => forM f b ds s2
  | some (.bk, s2) => some (.nx, s2)
  | some (o, s2) => some (o, s2)) := by
  unfold for2
  show (match f.go d s with
    | none => none
    | some s1 => match b s1 with
      | none => none
      | some (.nx, s2) => forM f b ds s2
      | some (.ct, s2) => forM f b ds s2
      | some (.bk, s2) => some (.nx, s2)
      | some (o, s2) => some (o, s2)) = _
  cases f.go d s with
  | none => rfl
  | some s1 => rfl
/-- a loop that returns v at the first item with p -/
theorem for_any {X : Type} {enc : X → D} {f : Tg} {b : MS} (p : X → Bool) (v : RV) (I : DSt → Prop) : ∀ (xs : List X) (s : DSt), I s → (∀ x ∈ xs, ∀ s, I s → OkS (for2 f b (enc x) s) fun fl s' => I s' ∧ fl = if p x = true then .rt v else .nx) →
    ∃ s', forM f b (xs.map enc) s = some (if xs.any p = true then .rt v else .nx, s') ∧ I s'
  | [], s, hi, _ => ⟨s, rfl, hi⟩
  | x :: xs, s, hi, h => by
    obtain ⟨fl, s1, e, i1, ef⟩ := (h x List.mem_cons_self s hi).ex
    rw [List.map_cons, forM_cons2, e, ef]
    cases hp : p x with
    | true =>
      refine ⟨s1, ?_, i1⟩
      simp [hp]
    | false =>
      obtain ⟨s', e2, i2⟩ := for_any p v I xs s1 i1 fun y hy => h y (List.mem_cons_of_mem _ hy)
      refine ⟨s', ?_, i2⟩
      simp [hp, e2]
theorem All2.len {X Y : Type} {R : X → Y → Prop} : ∀ {xs : List X} {ys : List Y}, All2 R xs ys → xs.length = ys.length
  | _, _, .nil => rfl
  | _, _, .cons _ t => by simp [t.len]
/-- what is found for each is worth a typed thing -/
theorem All2.typed {X Y : Type} {enc : Y → D} {P : Y → Prop} : ∀ {xs : List X} {ds : List D}, All2 (fun _ d => ∃ y, d = enc y ∧ P y) xs ds → ∃ ys : List Y, ds = ys.map enc ∧ ys.length = xs.length ∧ ∀ y ∈ ys, P y
  | _, _, .nil => ⟨[], rfl, rfl, fun _ h => by cases h⟩
  | _, _, .cons h t => by
    obtain ⟨y, rfl, p⟩ := h
    obtain ⟨ys, rfl, l, q⟩ := t.typed
    exact ⟨y :: ys, rfl, by simp [l], fun z hz => by rcases List.mem_cons.mp hz with e | e; (rw [e]; exact p); exact q z e⟩
/-! ### operations that may be done -/
theorem mod_ok (i j : Int) (h : 0 < j) : modD (.int i) (.int j) = some (.int (i % j)) := by rw [mod_int, if_pos h]
theorem div_ok (i j : Int) (h : 0 < j) (h2 : j < 10000000000000000000000000000000000000000) : divD (.int i) (.int j) = some (.int (i / j)) := by rw [div_int, if_pos ⟨h, h2⟩]
theorem mulE_int (i j : Int) : mulE (.int i) (.int j) = if mulOk i j = true then some (.val (.int (i * j))) else none := rfl
theorem mulOk_s {i j : Int} (h1 : -(2 ^ 200) < i) (h2 : i < 2 ^ 200) (h3 : -(2 ^ 200) < j) (h4 : j < 2 ^ 200) : mulOk i j = true := by
  have a : i.natAbs < 2 ^ 200 := by omega
  have b : j.natAbs < 2 ^ 200 := by omega
  exact mul_small (Nat.lt_of_lt_of_le a (Nat.pow_le_pow_right (by omega) (by omega))) (Nat.lt_of_lt_of_le b (Nat.pow_le_pow_right (by omega) (by omega)))
theorem mulE_ok (i j : Int) (h1 : -(2 ^ 200) < i) (h2 : i < 2 ^ 200) (h3 : -(2 ^ 200) < j) (h4 : j < 2 ^ 200) : mulE (.int i) (.int j) = some (.val (.int (i * j))) := by rw [mulE_int, if_pos (mulOk_s h1 h2 h3 h4)]
theorem mulE_right (i j : Int) (h3 : -(2 ^ 63) < j) (h4 : j < 2 ^ 63) : mulE (.int i) (.int j) = some (.val (.int (i * j))) := by
  rw [mulE_int, if_pos]
  unfold mulOk
  rw [decide_eq_true (show j.natAbs < 2 ^ 63 by omega), Bool.or_true, Bool.or_true]
theorem mulE_left (i j : Int) (h3 : -(2 ^ 63) < i) (h4 : i < 2 ^ 63) : mulE (.int i) (.int j) = some (.val (.int (i * j))) := by
  rw [mulE_int, if_pos]
  unfold mulOk
  rw [decide_eq_true (show i.natAbs < 2 ^ 63 by omega), Bool.true_or, Bool.or_true]
theorem mulE_str (x : Str) (n : Int) (h : x.length ≤ 1000 ∧ -1000 ≤ n ∧ n ≤ 1000) : mulE (.str x) (.int n) = some (.val (.str (Txt.mul x n))) := if_pos h
theorem adds_ok (x y : Str) (h : x.length + y.length ≤ 10000000) : addD (.str x) (.str y) = some (.val (.str (x ++ y))) := by rw [add_str, if_pos (by rw [sizeLine_eq]; omega)]
theorem addl_ok (a b : List D) (h : a.length + b.length ≤ 10000000) : addD (.lst a) (.lst b) = some (.own (.lst (a ++ b))) := by rw [add_lst, if_pos (by rw [sizeLine_eq]; omega)]
theorem addt_ok (a b : List D) (h : a.length + b.length ≤ 10000000) : addD (.tup a) (.tup b) = some (.val (.tup (a ++ b))) := by rw [add_tup, if_pos (by rw [sizeLine_eq]; omega)]
theorem dapp_ok (ds : List D) (d : D) (h : ds.length < 1000000) : appendG (.lst ds) [d] = some (.lst (ds ++ [d]), .non) := by rw [app_lst, if_pos h]
theorem dext_ok (ds es : List D) (h : ds.length + es.length ≤ 1000000) : extendG (.lst ds) [.lst es] = some (.lst (ds ++ es), .non) := by rw [ext_lst, if_pos h]
theorem pow_ok (i j : Int) (h : powOk i j = true) : powD (.int i) (.int j) = some (.int (i ^ j.toNat)) := by rw [pow_int, if_pos h]
theorem set_ok (ds : List D) (k : Nat) (v : D) (h : k < ds.length) : setG (.lst ds) (.int (k : Int)) v = some (.lst (ds.set k v)) := by
  rw [set_lst]
  unfold ixN
  rw [if_pos (by omega), if_pos (by omega)]
  simp
theorem set0 (d v : D) (ds : List D) : setG (.lst (d :: ds)) (.int 0) v = some (.lst (v :: ds)) := set_ok (d :: ds) 0 v (by simp)
theorem set1 (c d v : D) (ds : List D) : setG (.lst (c :: d :: ds)) (.int 1) v = some (.lst (c :: v :: ds)) := set_ok (c :: d :: ds) 1 v (by simp)
theorem in_def (x y : D) : inD x y = (inB x y).map fun b => .bl b := rfl
theorem notin_def (x y : D) : notinD x y = (inB x y).map fun b => .bl (!b) := rfl
theorem at5 {α : Type} (a b c d e f : α) (l : List α) : atI (a :: b :: c :: d :: e :: f :: l) 5 = some f := atI_nat (j := 5) rfl
theorem sortedD_lst (ds : List D) (h : sortOk ds = true) : sortedD [.lst ds] = some (.own (.lst (ds.mergeSort sleD))) := by rw [sort_lst, if_pos h]
theorem chain_le_lt (a b c : Int) (s : DSt) : True := trivial
end Dt
namespace Dt
open PySem L2
theorem bool_eq_self (a : Int) : (a == a) = true := by simp
theorem in_two (x a b : Int) : inD (.int x) (.lst [.int a, .int b]) = some (.bl (a == x || b == x)) := by
  unfold inD inB
  simp [inOk, noDic, noDics, deepD, eqvD]
end Dt
namespace Dt
open PySem L2
theorem popAt_eq (ds : List D) (i : Int) : popAtG (.lst ds) [.int i] = if -1000000 ≤ i ∧ i ≤ 1000000 then (ixN ds.length i).bind fun k => ds[k]?.map fun d => (.lst (ds.eraseIdx k), d) else none := rfl
theorem rng2_eq (i j : Int) : rng2 [.int i, .int j] = if -(2 ^ 60) ≤ i ∧ i < 2 ^ 60 ∧ -(2 ^ 60) ≤ j ∧ j - i ≤ 1000000 then some (rangeD i (j - i).toNat) else none := rfl
theorem rng2_at {a b : Int} {m n : Nat} (ha : a = m) (hb : b = m + n) (hn : m + n ≤ 100000) : rng2 [.int a, .int b] = some ((List.range' m n).map fun k => .int ((k : Nat) : Int)) := by
  subst ha hb
  rw [rng2_eq, if_pos (by omega), show ((m : Int) + (n : Int) - (m : Int)).toNat = n by omega, rangeD_map]
  congr 1
  rw [List.range'_eq_map_range, List.map_map]
  rfl
theorem while_t {m : M Bool} {b : MS} {n : Nat} {s s1 s2 : DSt} (h : m s = some (.ok true, s1)) (h2 : b s1 = some (.nx, s2)) : whileM m b (n + 1) s = whileM m b n s2 := by
  show (match m s with
    | none => none
    | some (.err k d, s1) => some (Dt.Flow.ex k d, s1)
    | some (.ok false, s1) => some (Dt.Flow.nx, s1)
    | some (.ok true, s1) => match b s1 with
      | none => none
      | some (.nx, s2) => whileM m b n s2
      | some (.ct, s2) => whileM m b n s2
      | some (.bk, s2) => some (.nx, s2)
      | some (o, s2) => some (o, s2)) = _
  rw [h]
  dsimp only
  rw [h2]
theorem while_f {m : M Bool} {b : MS} {n : Nat} {s s1 : DSt} (h : m s = some (.ok false, s1)) : whileM m b (n + 1) s = some (.nx, s1) := by
  show (match m s with
    | none => none
    | some (.err k d, s1) => some (Dt.Flow.ex k d, s1)
    | some (.ok false, s1) => some (Dt.Flow.nx, s1)
    | some (.ok true, s1) => match b s1 with
      | none => none
      | some (.nx, s2) => whileM m b n s2
      | some (.ct, s2) => whileM m b n s2
      | some (.bk, s2) => some (.nx, s2)
      | some (o, s2) => some (o, s2)) = _
  rw [h]
end Dt
namespace Dt
open PySem L2
/-- a loop that returns v at the first item with p, over what is taken till then -/
theorem for_stop {X : Type} {enc : X → D} {f : Tg} {b : MS} (p : X → Bool) (v : RV) (all : List X) (I : List X → DSt → Prop) (J : DSt → Prop) : ∀ (post pre : List X) (s : DSt), pre ++ post = all → I pre s → (∀ (pre : List X) (x : X) (rest : List X) (s : DSt), pre ++ x :: rest = all → I pre s → OkS (for2 f b (enc x) s) fun fl s' => (p x = true ∧ fl = .rt v ∧ J s') ∨ (p x = false ∧ fl = .nx ∧ I (pre ++ [x]) s')) →
    ∃ s', (post.any p = true ∧ forM f b (post.map enc) s = some (.rt v, s') ∧ J s') ∨ (post.any p = false ∧ forM f b (post.map enc) s = some (.nx, s') ∧ I all s')
  | [], pre, s, ha, hi, _ => ⟨s, .inr ⟨rfl, rfl, by rw [← ha, List.append_nil]; exact hi⟩⟩
  | x :: post, pre, s, ha, hi, h => by
    obtain ⟨fl, s1, e, q⟩ := (h pre x post s ha hi).ex
    rw [List.map_cons, forM_cons2, e]
    rcases q with ⟨q1, rfl, q3⟩ | ⟨q1, rfl, q3⟩
    · exact ⟨s1, .inl ⟨by simp [q1], rfl, q3⟩⟩
    · obtain ⟨s', r⟩ := for_stop p v all I J post (pre ++ [x]) s1 (by rw [← ha, List.append_assoc]; rfl) q3 h
      refine ⟨s', ?_⟩
      rcases r with ⟨r1, r2, r3⟩ | ⟨r1, r2, r3⟩
      · exact .inl ⟨by simp [r1], r2, r3⟩
      · exact .inr ⟨by simp [q1, r1], r2, r3⟩
end Dt

end
section
set_option autoImplicit false
/-! Sums, remarks, programs, as plain things; how they stand as data. -/
namespace Cal
open PySem L2 Dt
abbrev Sm := Int × List (Str × Int)
def encPr (p : Str × Int) : D := .tup [.str p.1, .int p.2]
def encSm (s : Sm) : D := .tup [.int s.1, .tup (s.2.map encPr)]
inductive Rem where
  | most (s : Sm) | rest (s : Sm) (m : Int) | at (h : Str) (p : Int) | and (rs : List Rem) | or (rs : List Rem) | not (r : Rem)
mutual
def encR : Rem → D
  | .most s => .tup [.str "most", encSm s]
  | .rest s m => .tup [.str "rest", encSm s, .int m]
  | .at h p => .tup [.str "at", .str h, .int p]
  | .and rs => .tup [.str "and", .tup (encRs rs)]
  | .or rs => .tup [.str "or", .tup (encRs rs)]
  | .not r => .tup [.str "not", encR r]
def encRs : List Rem → List D
  | [] => []
  | r :: rs => encR r :: encRs rs
end
theorem encRs_map : ∀ rs : List Rem, encRs rs = rs.map encR
  | [] => by rw [encRs]; rfl
  | r :: rs => by rw [encRs, encRs_map rs]; rfl
mutual
def Rem.deep : Rem → Nat
  | .and rs => deeps rs + 1
  | .or rs => deeps rs + 1
  | .not r => r.deep + 1
  | .most _ => 1
  | .rest _ _ => 1
  | .at _ _ => 1
def deeps : List Rem → Nat
  | [] => 0
  | r :: rs => max r.deep (deeps rs)
end
theorem deeps_mem : ∀ {rs : List Rem} {r : Rem}, r ∈ rs → r.deep ≤ deeps rs
  | x :: xs, r, h => by
    unfold deeps
    rcases List.mem_cons.mp h with e | e
    · rw [e]; omega
    · have := deeps_mem e; omega
theorem deeps_le {n : Nat} : ∀ {rs : List Rem}, (∀ r ∈ rs, r.deep ≤ n) → deeps rs ≤ n
  | [], _ => by unfold deeps; omega
  | r :: rs, h => by
    have h1 := h r List.mem_cons_self
    have h2 := deeps_le (rs := rs) fun x hx => h x (List.mem_cons_of_mem _ hx)
    unfold deeps
    omega
/-! the boxes are among bs, the hands among hs; the sums fit P -/
mutual
def Rem.ok (P : Sm → Prop) (hs : List Str) : Rem → Prop
  | .most s => P s
  | .rest s m => P s ∧ 2 ≤ m ∧ m ≤ 12
  | .at h p => h ∈ hs ∧ 0 ≤ p ∧ p < 1000
  | .and rs => rs.length ≤ 6 ∧ oks P hs rs
  | .or rs => rs.length ≤ 6 ∧ oks P hs rs
  | .not r => r.ok P hs
def oks (P : Sm → Prop) (hs : List Str) : List Rem → Prop
  | [] => True
  | r :: rs => r.ok P hs ∧ oks P hs rs
end
theorem oks_iff {P : Sm → Prop} {hs : List Str} : ∀ {rs : List Rem}, oks P hs rs ↔ ∀ r ∈ rs, r.ok P hs
  | [] => by unfold oks; simp
  | r :: rs => by
    unfold oks
    rw [oks_iff (rs := rs)]
    simp
/-! no dicts, no great depth -/
theorem pr_fit (p : Str × Int) : noDic (encPr p) = true ∧ deepD (encPr p) ≤ 1 := ⟨rfl, by simp [encPr, deepD, deepAll]⟩
theorem sm_fit (s : Sm) : noDic (encSm s) = true ∧ deepD (encSm s) ≤ 3 := by
  have n : noDics (s.2.map encPr) = true := noDics_of fun d m => by
    obtain ⟨x, _, rfl⟩ := List.mem_map.mp m
    exact (pr_fit x).1
  have l : deepAll (s.2.map encPr) ≤ 1 := deepAll_le fun d m => by
    obtain ⟨x, _, rfl⟩ := List.mem_map.mp m
    exact (pr_fit x).2
  unfold encSm
  refine ⟨by simp [noDic, noDics, n], ?_⟩
  simp only [deepD, deepAll]
  omega
mutual
theorem rem_fit : ∀ r : Rem, noDic (encR r) = true ∧ deepD (encR r) ≤ 2 * r.deep + 2
  | .most s => by
    have h := sm_fit s
    rw [encR]
    refine ⟨by simp [noDic, noDics, h.1], ?_⟩
    simp only [deepD, deepAll, Rem.deep]
    omega
  | .rest s m => by
    have h := sm_fit s
    rw [encR]
    refine ⟨by simp [noDic, noDics, h.1], ?_⟩
    simp only [deepD, deepAll, Rem.deep]
    omega
  | .at h p => by
    rw [encR]
    refine ⟨by simp [noDic, noDics], ?_⟩
    simp only [deepD, deepAll, Rem.deep]
    omega
  | .and rs => by
    have h := rems_fit rs
    rw [encR]
    refine ⟨by simp [noDic, noDics, h.1], ?_⟩
    simp only [deepD, deepAll, Rem.deep]
    omega
  | .or rs => by
    have h := rems_fit rs
    rw [encR]
    refine ⟨by simp [noDic, noDics, h.1], ?_⟩
    simp only [deepD, deepAll, Rem.deep]
    omega
  | .not r => by
    have h := rem_fit r
    rw [encR]
    refine ⟨by simp [noDic, noDics, h.1], ?_⟩
    simp only [deepD, deepAll, Rem.deep]
    omega
theorem rems_fit : ∀ rs : List Rem, noDics (encRs rs) = true ∧ deepAll (encRs rs) ≤ 2 * deeps rs + 2
  | [] => by
    rw [encRs]
    exact ⟨rfl, by simp [deepAll]⟩
  | r :: rs => by
    have h := rem_fit r
    have q := rems_fit rs
    rw [encRs]
    refine ⟨by simp [noDics, h.1, q.1], ?_⟩
    simp only [deepAll, deeps]
    omega
end
/-! a program -/
structure Bx where
  name : Str
  low : Int
  high : Int
  start : Int
  own : Str
structure Stp where
  hand : Str
  here : Int
  guard : Rem
  sets : List (Str × Sm)
  there : Int
structure Prg where
  boxes : List Bx
  hands : List (Str × Int)
  steps : List Stp
def encBx (b : Bx) : D := .tup [.str b.name, .str b.own, .int b.low, .int b.high, .int b.start]
def encHd (h : Str × Int) : D := .tup [.str h.1, .int h.2]
def encSet (s : Str × Sm) : D := .tup [.str s.1, encSm s.2]
def encSt (s : Stp) : D := .tup [.str s.hand, .int s.here, encR s.guard, .tup (s.sets.map encSet), .int s.there]
def encPrg (p : Prg) : D := .tup [.lst (p.boxes.map encBx), .lst (p.hands.map encHd), .lst (p.steps.map encSt), .tup []]
theorem map_fit {X : Type} {f : X → D} {n : Nat} {l : List X} (h : ∀ x ∈ l, noDic (f x) = true ∧ deepD (f x) ≤ n) : noDics (l.map f) = true ∧ deepAll (l.map f) ≤ n :=
  ⟨noDics_of fun d m => by
    obtain ⟨x, hx, rfl⟩ := List.mem_map.mp m
    exact (h x hx).1, deepAll_le fun d m => by
    obtain ⟨x, hx, rfl⟩ := List.mem_map.mp m
    exact (h x hx).2⟩
theorem set_fit (s : Str × Sm) : noDic (encSet s) = true ∧ deepD (encSet s) ≤ 4 := by
  have h := sm_fit s.2
  unfold encSet
  refine ⟨by simp [noDic, noDics, h.1], ?_⟩
  simp only [deepD, deepAll]
  omega
theorem st_fit (s : Stp) (n : Nat) (h : s.guard.deep ≤ n) (hn : 2 ≤ n) : noDic (encSt s) = true ∧ deepD (encSt s) ≤ 2 * n + 3 := by
  have h1 := rem_fit s.guard
  have h2 := map_fit (f := encSet) (n := 4) (l := s.sets) fun x _ => set_fit x
  unfold encSt
  refine ⟨by simp [noDic, noDics, h1.1, h2.1], ?_⟩
  simp only [deepD, deepAll]
  omega
theorem prg_fit (p : Prg) (h : ∀ s ∈ p.steps, s.guard.deep ≤ 20) : noDic (encPrg p) = true ∧ deepD (encPrg p) ≤ 64 := by
  have h1 := map_fit (f := encBx) (n := 1) (l := p.boxes) fun x _ => ⟨rfl, by simp [encBx, deepD, deepAll]⟩
  have h2 := map_fit (f := encHd) (n := 1) (l := p.hands) fun x _ => ⟨rfl, by simp [encHd, deepD, deepAll]⟩
  have h3 := map_fit (f := encSt) (n := 43) (l := p.steps) fun x hx => st_fit x 20 (h x hx) (by omega)
  unfold encPrg
  refine ⟨by simp [noDic, noDics, h1.1, h2.1, h3.1], ?_⟩
  simp only [deepD, deepAll]
  omega
/-! texts in order -/
theorem sle_str (x y : Str) : sleD (.str x) (.str y) = leStr x y := by
  unfold sleD leStr
  simp only [pdD]
  rw [PySem.W.dataLt_str]
  by_cases h : y.cps.toList < x.cps.toList
  · simp [h, List.not_le.mpr h]
  · simp [h, List.not_lt.mp h]
theorem sortOk_strs (bs : List Str) : sortOk (bs.map D.str) = true := by
  have h1 : noDics (bs.map D.str) = true := noDics_of fun d m => by
    obtain ⟨x, _, rfl⟩ := List.mem_map.mp m
    rfl
  have h2 : deepAll (bs.map D.str) ≤ 0 := deepAll_le fun d m => by
    obtain ⟨x, _, rfl⟩ := List.mem_map.mp m
    simp [deepD]
  unfold sortOk
  simp only [h1, Bool.and_eq_true, decide_eq_true_eq, Bool.or_eq_true, true_and]
  refine ⟨?_, .inr ?_, by omega⟩
  · simp [List.all_eq_true, pdD, PySem.W.alike]
  · simp [List.all_eq_true, notTup]
theorem sort_strs (bs : List Str) : (bs.map D.str).mergeSort sleD = (bs.mergeSort leStr).map D.str :=
  (List.map_mergeSort fun a _ b _ => (sle_str a b).symm).symm
theorem sorted_strs (bs : List Str) : sortedD [.lst (bs.map D.str)] = some (.own (.lst ((bs.mergeSort leStr).map D.str))) := by
  rw [sortedD_lst _ (sortOk_strs bs), sort_strs]
/-! words -/
theorem w_most_rest : (("most" : Str) = ("rest" : Str)) = False := eq_false (by decide)
theorem w_most_at : (("most" : Str) = ("at" : Str)) = False := eq_false (by decide)
theorem w_most_and : (("most" : Str) = ("and" : Str)) = False := eq_false (by decide)
theorem w_most_or : (("most" : Str) = ("or" : Str)) = False := eq_false (by decide)
theorem w_most_not : (("most" : Str) = ("not" : Str)) = False := eq_false (by decide)
theorem w_rest_most : (("rest" : Str) = ("most" : Str)) = False := eq_false (by decide)
theorem w_rest_at : (("rest" : Str) = ("at" : Str)) = False := eq_false (by decide)
theorem w_rest_and : (("rest" : Str) = ("and" : Str)) = False := eq_false (by decide)
theorem w_rest_or : (("rest" : Str) = ("or" : Str)) = False := eq_false (by decide)
theorem w_rest_not : (("rest" : Str) = ("not" : Str)) = False := eq_false (by decide)
theorem w_at_most : (("at" : Str) = ("most" : Str)) = False := eq_false (by decide)
theorem w_at_rest : (("at" : Str) = ("rest" : Str)) = False := eq_false (by decide)
theorem w_at_and : (("at" : Str) = ("and" : Str)) = False := eq_false (by decide)
theorem w_at_or : (("at" : Str) = ("or" : Str)) = False := eq_false (by decide)
theorem w_at_not : (("at" : Str) = ("not" : Str)) = False := eq_false (by decide)
theorem w_and_most : (("and" : Str) = ("most" : Str)) = False := eq_false (by decide)
theorem w_and_rest : (("and" : Str) = ("rest" : Str)) = False := eq_false (by decide)
theorem w_and_at : (("and" : Str) = ("at" : Str)) = False := eq_false (by decide)
theorem w_and_or : (("and" : Str) = ("or" : Str)) = False := eq_false (by decide)
theorem w_and_not : (("and" : Str) = ("not" : Str)) = False := eq_false (by decide)
theorem w_or_most : (("or" : Str) = ("most" : Str)) = False := eq_false (by decide)
theorem w_or_rest : (("or" : Str) = ("rest" : Str)) = False := eq_false (by decide)
theorem w_or_at : (("or" : Str) = ("at" : Str)) = False := eq_false (by decide)
theorem w_or_and : (("or" : Str) = ("and" : Str)) = False := eq_false (by decide)
theorem w_or_not : (("or" : Str) = ("not" : Str)) = False := eq_false (by decide)
theorem w_not_most : (("not" : Str) = ("most" : Str)) = False := eq_false (by decide)
theorem w_not_rest : (("not" : Str) = ("rest" : Str)) = False := eq_false (by decide)
theorem w_not_at : (("not" : Str) = ("at" : Str)) = False := eq_false (by decide)
theorem w_not_and : (("not" : Str) = ("and" : Str)) = False := eq_false (by decide)
theorem w_not_or : (("not" : Str) = ("or" : Str)) = False := eq_false (by decide)

/-! boxes and hands of a remark -/
mutual
def Rem.boxes : Rem → List Str
  | .most s => s.2.map (·.1)
  | .rest s _ => s.2.map (·.1)
  | .at _ _ => []
  | .and rs => boxess rs
  | .or rs => boxess rs
  | .not r => r.boxes
def boxess : List Rem → List Str
  | [] => []
  | r :: rs => r.boxes ++ boxess rs
end
mutual
def Rem.ats : Rem → List Str
  | .most _ => []
  | .rest _ _ => []
  | .at h _ => [h]
  | .and rs => atss rs
  | .or rs => atss rs
  | .not r => r.ats
def atss : List Rem → List Str
  | [] => []
  | r :: rs => r.ats ++ atss rs
end
theorem boxess_eq : ∀ rs : List Rem, boxess rs = (rs.map Rem.boxes).flatten
  | [] => by rw [boxess]; rfl
  | r :: rs => by rw [boxess, boxess_eq rs]; rfl
theorem atss_eq : ∀ rs : List Rem, atss rs = (rs.map Rem.ats).flatten
  | [] => by rw [atss]; rfl
  | r :: rs => by rw [atss, atss_eq rs]; rfl
def Rem.subs : Rem → List Rem
  | .not r => [r]
  | .and rs => rs
  | .or rs => rs
  | .most _ => []
  | .rest _ _ => []
  | .at _ _ => []
def Rem.topB : Rem → List Str
  | .most s => s.2.map (·.1)
  | .rest s _ => s.2.map (·.1)
  | .at _ _ => []
  | .and _ => []
  | .or _ => []
  | .not _ => []
def Rem.topA : Rem → List Str
  | .most _ => []
  | .rest _ _ => []
  | .at h _ => [h]
  | .and _ => []
  | .or _ => []
  | .not _ => []
theorem boxes_split (r : Rem) : r.boxes = r.topB ++ (r.subs.map Rem.boxes).flatten := by
  cases r <;> simp [Rem.boxes, Rem.topB, Rem.subs, boxess_eq]
theorem ats_split (r : Rem) : r.ats = r.topA ++ (r.subs.map Rem.ats).flatten := by
  cases r <;> simp [Rem.ats, Rem.topA, Rem.subs, atss_eq]
theorem subs_deep {r x : Rem} (h : x ∈ r.subs) : x.deep + 1 ≤ r.deep := by
  cases r with
  | most _ => cases h
  | rest _ _ => cases h
  | «at» _ _ => cases h
  | and rs =>
    have := deeps_mem (show x ∈ rs from h)
    rw [Rem.deep]
    omega
  | or rs =>
    have := deeps_mem (show x ∈ rs from h)
    rw [Rem.deep]
    omega
  | not q =>
    rw [List.mem_singleton.mp (show x ∈ [q] from h), Rem.deep]
    omega
theorem deep_pos (r : Rem) : 1 ≤ r.deep := by
  cases r <;> simp [Rem.deep]
theorem flatten_le {X Y : Type} {f : X → List Y} {k : Nat} : ∀ {xs : List X}, (∀ x ∈ xs, (f x).length ≤ k) → ((xs.map f).flatten).length ≤ xs.length * k
  | [], _ => by simp
  | x :: xs, h => by
    have h1 := h x List.mem_cons_self
    have h2 := flatten_le (xs := xs) fun y hy => h y (List.mem_cons_of_mem _ hy)
    rw [List.map_cons, List.flatten_cons, List.length_append, List.length_cons, Nat.succ_mul]
    omega
section
variable {P : Sm → Prop} {hs : List Str} {N : Nat}
mutual
theorem boxes_le (hP : ∀ s, P s → s.2.length ≤ N) : ∀ (r : Rem), r.ok P hs → r.boxes.length ≤ 6 ^ r.deep * N
  | .most s, h => by
    rw [Rem.ok] at h
    have := hP s h
    rw [Rem.boxes, Rem.deep, List.length_map]
    omega
  | .rest s m, h => by
    rw [Rem.ok] at h
    have := hP s h.1
    rw [Rem.boxes, Rem.deep, List.length_map]
    omega
  | .at _ _, h => by rw [Rem.boxes]; simp
  | .and rs, h => by
    rw [Rem.ok] at h
    have q := boxess_le hP rs h.2
    rw [Rem.boxes, Rem.deep, Nat.pow_succ]
    have : rs.length * (6 ^ deeps rs * N) ≤ 6 * (6 ^ deeps rs * N) := Nat.mul_le_mul_right _ h.1
    rw [Nat.mul_comm (6 ^ deeps rs) 6, Nat.mul_assoc]
    omega
  | .or rs, h => by
    rw [Rem.ok] at h
    have q := boxess_le hP rs h.2
    rw [Rem.boxes, Rem.deep, Nat.pow_succ]
    have : rs.length * (6 ^ deeps rs * N) ≤ 6 * (6 ^ deeps rs * N) := Nat.mul_le_mul_right _ h.1
    rw [Nat.mul_comm (6 ^ deeps rs) 6, Nat.mul_assoc]
    omega
  | .not r, h => by
    rw [Rem.ok] at h
    have q := boxes_le hP r h
    rw [Rem.boxes, Rem.deep, Nat.pow_succ]
    have : 6 ^ r.deep * N ≤ 6 ^ r.deep * 6 * N := Nat.mul_le_mul_right _ (Nat.le_mul_of_pos_right _ (by omega))
    omega
theorem boxess_le (hP : ∀ s, P s → s.2.length ≤ N) : ∀ (rs : List Rem), oks P hs rs → (boxess rs).length ≤ rs.length * (6 ^ deeps rs * N)
  | [], h => by rw [boxess]; simp
  | r :: rs, h => by
    rw [oks] at h
    have q := boxes_le hP r h.1
    have q2 := boxess_le hP rs h.2
    rw [boxess, deeps, List.length_append, List.length_cons, Nat.succ_mul]
    have a : 6 ^ r.deep * N ≤ 6 ^ (max r.deep (deeps rs)) * N := Nat.mul_le_mul_right _ (Nat.pow_le_pow_right (by omega) (by omega))
    have b : rs.length * (6 ^ deeps rs * N) ≤ rs.length * (6 ^ (max r.deep (deeps rs)) * N) := Nat.mul_le_mul_left _ (Nat.mul_le_mul_right _ (Nat.pow_le_pow_right (by omega) (by omega)))
    omega
end
mutual
theorem ats_le : ∀ (r : Rem), r.ok P hs → r.ats.length ≤ 6 ^ r.deep
  | .most s, h => by rw [Rem.ats]; simp
  | .rest s m, h => by rw [Rem.ats]; simp
  | .at _ _, h => by rw [Rem.ats, Rem.deep]; simp
  | .and rs, h => by
    rw [Rem.ok] at h
    have q := atss_le rs h.2
    rw [Rem.ats, Rem.deep, Nat.pow_succ]
    have : rs.length * 6 ^ deeps rs ≤ 6 * 6 ^ deeps rs := Nat.mul_le_mul_right _ h.1
    omega
  | .or rs, h => by
    rw [Rem.ok] at h
    have q := atss_le rs h.2
    rw [Rem.ats, Rem.deep, Nat.pow_succ]
    have : rs.length * 6 ^ deeps rs ≤ 6 * 6 ^ deeps rs := Nat.mul_le_mul_right _ h.1
    omega
  | .not r, h => by
    rw [Rem.ok] at h
    have q := ats_le r h
    rw [Rem.ats, Rem.deep, Nat.pow_succ]
    omega
theorem atss_le : ∀ (rs : List Rem), oks P hs rs → (atss rs).length ≤ rs.length * 6 ^ deeps rs
  | [], h => by rw [atss]; simp
  | r :: rs, h => by
    rw [oks] at h
    have q := ats_le r h.1
    have q2 := atss_le rs h.2
    rw [atss, deeps, List.length_append, List.length_cons, Nat.succ_mul]
    have a : 6 ^ r.deep ≤ 6 ^ (max r.deep (deeps rs)) := Nat.pow_le_pow_right (by omega) (by omega)
    have b : rs.length * 6 ^ deeps rs ≤ rs.length * 6 ^ (max r.deep (deeps rs)) := Nat.mul_le_mul_left _ (Nat.pow_le_pow_right (by omega) (by omega))
    omega
end
end
/-! dicts that are sets -/
def setK (ks : List Str) : D := .dic false (ks.map fun k => (DK.str k, .bl true))
def setT (ks : List (Str × Str)) : D := .dic true (ks.map fun k => (DK.tup [.str k.1, .str k.2], .bl true))
def addU {X : Type} [DecidableEq X] (ks : List X) (k : X) : List X := if k ∈ ks then ks else ks ++ [k]
theorem mem_addU {X : Type} [DecidableEq X] {ks : List X} {k x : X} : x ∈ addU ks k ↔ x ∈ ks ∨ x = k := by
  unfold addU
  split
  · rename_i h
    exact ⟨.inl, fun q => q.elim id fun e => by rw [e]; exact h⟩
  · simp
theorem mem_addsU {X : Type} [DecidableEq X] {x : X} : ∀ {l ks : List X}, x ∈ l.foldl addU ks ↔ x ∈ ks ∨ x ∈ l
  | [], ks => by simp
  | k :: l, ks => by
    rw [List.foldl_cons, mem_addsU, mem_addU]
    simp only [List.mem_cons]
    exact or_assoc
theorem len_addU {X : Type} [DecidableEq X] (ks : List X) (k : X) : (addU ks k).length ≤ ks.length + 1 := by
  unfold addU
  split <;> simp
theorem len_addsU {X : Type} [DecidableEq X] : ∀ (l ks : List X), (l.foldl addU ks).length ≤ ks.length + l.length
  | [], ks => by simp
  | k :: l, ks => by
    have h := len_addsU l (addU ks k)
    have h2 := len_addU ks k
    rw [List.foldl_cons, List.length_cons]
    omega
theorem putK_set {X : Type} [DecidableEq X] (κ : X → DK) (hκ : ∀ a b, κ a = κ b → a = b) (k : X) : ∀ ks : List X, putD (ks.map fun k => (κ k, D.bl true)) (κ k) (.bl true) = (addU ks k).map fun k => (κ k, D.bl true)
  | [] => by simp [putD, addU]
  | j :: ks => by
    have ih := putK_set κ hκ k ks
    rw [List.map_cons, putD]
    by_cases h : κ j = κ k
    · have e := hκ _ _ h
      subst e
      rw [if_pos h]
      simp [addU]
    · rw [if_neg h, ih]
      have e : k ≠ j := fun z => h (by rw [z])
      unfold addU
      by_cases m : k ∈ ks
      · simp [m]
      · simp [m, e]
theorem look_set {X : Type} [DecidableEq X] (κ : X → DK) (hκ : ∀ a b, κ a = κ b → a = b) (k : X) : ∀ ks : List X, (lookD (ks.map fun k => (κ k, D.bl true)) (κ k)).isSome = decide (k ∈ ks)
  | [] => by simp [lookD]
  | j :: ks => by
    have ih := look_set κ hκ k ks
    rw [List.map_cons, lookD]
    by_cases h : κ j = κ k
    · have e := hκ _ _ h
      subst e
      rw [if_pos h]
      simp
    · rw [if_neg h, ih]
      have e : k ≠ j := fun z => h (by rw [z])
      simp [e]
theorem setK_put (ks : List Str) (k : Str) (h : ks.length < 1000000) : setG (setK ks) (.str k) (.bl true) = some (setK (addU ks k)) := by
  unfold setK
  rw [set_dicK, if_pos (by simpa using h), putK_set DK.str (fun a b e => by cases e; rfl)]
theorem keyT_pair (a b : Str) (ha : a ≠ "label") : putKey true (.tup [.str a, .str b]) = some (.tup [.str a, .str b]) := by
  show (if keyT [D.str a, .str b] = true then keyD true (.tup [.str a, .str b]) else none) = _
  rw [if_pos (show keyT [D.str a, .str b] = true from decide_eq_true ha)]
  rfl
theorem tup2_inj (a b : Str × Str) (e : DK.tup [.str a.1, .str a.2] = DK.tup [.str b.1, .str b.2]) : a = b := by
  obtain ⟨a1, a2⟩ := a
  obtain ⟨b1, b2⟩ := b
  cases e
  rfl
theorem setT_put (ks : List (Str × Str)) (a b : Str) (ha : a ≠ "label") (h : ks.length < 1000000) : setG (setT ks) (.tup [.str a, .str b]) (.bl true) = some (setT (addU ks (a, b))) := by
  unfold setT setG
  have e := putK_set (fun k : Str × Str => DK.tup [.str k.1, .str k.2]) tup2_inj (a, b) ks
  dsimp only at e ⊢
  rw [if_pos (by simpa using h), keyT_pair a b ha, Option.map_some, e]
theorem in_setT (ks : List (Str × Str)) (a b : Str) : inD (.tup [.str a, .str b]) (setT ks) = some (.bl (decide ((a, b) ∈ ks))) := by
  have e := look_set (fun k : Str × Str => DK.tup [.str k.1, .str k.2]) tup2_inj (a, b) ks
  show some (D.bl (lookD (ks.map fun k => (DK.tup [.str k.1, .str k.2], D.bl true)) (.tup [.str a, .str b])).isSome) = _
  rw [e]
  congr
theorem any_eqv_str (x : Str) (l : List Str) : (l.map D.str).any (fun z => eqvD z (.str x)) = decide (x ∈ l) := by
  induction l with
  | nil => rfl
  | cons y l ih =>
    rw [List.map_cons, List.any_cons, ih]
    simp only [eqvD]
    by_cases h : y = x
    · subst h
      simp
    · have h2 : ¬ x = y := fun e => h e.symm
      simp [h, h2]
theorem strs_noDics (l : List Str) : noDics (l.map D.str) = true := noDics_of fun d m => by
  obtain ⟨x, _, rfl⟩ := List.mem_map.mp m
  rfl
theorem in_strs (x : Str) (l : List Str) : inD (.str x) (.lst (l.map D.str)) = some (.bl (decide (x ∈ l))) := by
  show ((if inOk (.str x) (l.map D.str) = true then some ((l.map D.str).any fun z => eqvD z (.str x)) else none).map fun b => D.bl b) = _
  rw [if_pos (show inOk (.str x) (l.map D.str) = true by unfold inOk; rw [strs_noDics]; rfl), any_eqv_str]
  rfl
end Cal

end
section
set_option autoImplicit false
/-! Values by names; stands; what steps do. -/
namespace Cal
open PySem L2 Dt
abbrev Bk := List (Str × Int)
def encBk (b : Bk) : D := .dic false (b.map fun p => (DK.str p.1, D.int p.2))
def bget : Bk → Str → Int
  | [], _ => 0
  | (j, v) :: b, x => if j = x then v else bget b x
def bset : Bk → Str → Int → Bk
  | [], _, _ => []
  | (j, w) :: b, x, v => if j = x then (j, v) :: b else (j, w) :: bset b x v
theorem look_bk {x : Str} : ∀ {b : Bk}, x ∈ b.map (·.1) → lookD (b.map fun p => (DK.str p.1, D.int p.2)) (.str x) = some (.int (bget b x))
  | (j, v) :: b, h => by
    rw [List.map_cons, lookD, bget]
    by_cases e : j = x
    · subst e
      rw [if_pos rfl, if_pos rfl]
    · rw [if_neg (fun q => e (by cases q; rfl)), if_neg e]
      rcases List.mem_cons.mp h with q | q
      · exact absurd q.symm e
      · exact look_bk q
theorem put_bk {x : Str} {v : Int} : ∀ {b : Bk}, x ∈ b.map (·.1) → putD (b.map fun p => (DK.str p.1, D.int p.2)) (.str x) (.int v) = (bset b x v).map fun p => (DK.str p.1, D.int p.2)
  | (j, w) :: b, h => by
    rw [List.map_cons, putD, bset]
    by_cases e : j = x
    · subst e
      rw [if_pos rfl, if_pos rfl]
      rfl
    · rw [if_neg (fun q => e (by cases q; rfl)), if_neg e, List.map_cons]
      rcases List.mem_cons.mp h with q | q
      · exact absurd q.symm e
      · rw [put_bk q]
theorem bset_keys {x : Str} {v : Int} : ∀ {b : Bk}, (bset b x v).map (·.1) = b.map (·.1)
  | [] => rfl
  | (j, w) :: b => by
    rw [bset]
    split
    · rfl
    · rw [List.map_cons, List.map_cons, bset_keys]
theorem bset_get {x y : Str} {v : Int} : ∀ {b : Bk}, x ∈ b.map (·.1) → bget (bset b x v) y = if x = y then v else bget b y
  | (j, w) :: b, h => by
    rw [bset]
    by_cases e : j = x
    · subst e
      rw [if_pos rfl, bget, bget]
      split <;> rfl
    · rw [if_neg e, bget, bget]
      rcases List.mem_cons.mp h with q | q
      · exact absurd q.symm e
      · rw [bset_get q]
        by_cases e2 : j = y
        · subst e2
          rw [if_pos rfl, if_pos rfl, if_neg (fun z => e z.symm)]
        · rw [if_neg e2, if_neg e2]
theorem item_bk {b : Bk} {x : Str} (h : x ∈ b.map (·.1)) : itemD (encBk b) (.str x) = some (.int (bget b x)) := by
  unfold encBk
  rw [item_dicK]
  exact look_bk h
theorem set_bk {b : Bk} {x : Str} {v : Int} (h : x ∈ b.map (·.1)) (hl : b.length < 1000000) : setG (encBk b) (.str x) (.int v) = some (encBk (bset b x v)) := by
  unfold encBk
  rw [set_dicK, if_pos (by simpa using hl), put_bk h]
/-- a value that is small -/
abbrev Sml (i : Int) : Prop := -(2 ^ 150) < i ∧ i < 2 ^ 150
def sval (b : Bk) (s : Sm) : Int := s.1 + (s.2.map fun p => p.2 * bget b p.1).sum
abbrev SmIn (ks : List Str) (s : Sm) : Prop := ∀ p ∈ s.2, p.1 ∈ ks ∧ Sml p.2
mutual
def Rem.holds (b pl : Bk) : Rem → Bool
  | .most s => decide (sval b s ≤ 0)
  | .rest s m => sval b s % m == 0
  | .at h p => bget pl h == p
  | .and rs => hAll b pl rs
  | .or rs => hAny b pl rs
  | .not r => !r.holds b pl
def hAll (b pl : Bk) : List Rem → Bool
  | [] => true
  | r :: rs => r.holds b pl && hAll b pl rs
def hAny (b pl : Bk) : List Rem → Bool
  | [] => false
  | r :: rs => r.holds b pl || hAny b pl rs
end
theorem hAll_eq (b pl : Bk) : ∀ rs : List Rem, hAll b pl rs = (rs.map (Rem.holds b pl)).all id
  | [] => by rw [hAll]; rfl
  | r :: rs => by rw [hAll, hAll_eq b pl rs]; rfl
theorem hAny_eq (b pl : Bk) : ∀ rs : List Rem, hAny b pl rs = (rs.map (Rem.holds b pl)).any id
  | [] => by rw [hAny]; rfl
  | r :: rs => by rw [hAny, hAny_eq b pl rs]; rfl
mutual
theorem ok_imp {P Q : Sm → Prop} {hs ks : List Str} (h1 : ∀ s, P s → Q s) (h2 : ∀ x, x ∈ hs → x ∈ ks) : ∀ r : Rem, r.ok P hs → r.ok Q ks
  | .most s, h => by rw [Rem.ok] at h ⊢; exact h1 s h
  | .rest s m, h => by rw [Rem.ok] at h ⊢; exact ⟨h1 s h.1, h.2⟩
  | .at a p, h => by rw [Rem.ok] at h ⊢; exact ⟨h2 a h.1, h.2⟩
  | .and rs, h => by rw [Rem.ok] at h ⊢; exact ⟨h.1, oks_imp h1 h2 rs h.2⟩
  | .or rs, h => by rw [Rem.ok] at h ⊢; exact ⟨h.1, oks_imp h1 h2 rs h.2⟩
  | .not r, h => by rw [Rem.ok] at h ⊢; exact ok_imp h1 h2 r h
theorem oks_imp {P Q : Sm → Prop} {hs ks : List Str} (h1 : ∀ s, P s → Q s) (h2 : ∀ x, x ∈ hs → x ∈ ks) : ∀ rs : List Rem, oks P hs rs → oks Q ks rs
  | [], h => by rw [oks]; trivial
  | r :: rs, h => by rw [oks] at h ⊢; exact ⟨ok_imp h1 h2 r h.1, oks_imp h1 h2 rs h.2⟩
end
/-- the same of two books that tell the same of what is named -/
theorem sval_same {b b' : Bk} {s : Sm} (h : ∀ p ∈ s.2, bget b p.1 = bget b' p.1) : sval b s = sval b' s := by
  unfold sval
  congr 2
  exact List.map_congr_left fun p hp => by rw [h p hp]
mutual
theorem holds_same {b b' pl pl' : Bk} : ∀ r : Rem, (∀ x ∈ r.boxes, bget b x = bget b' x) → (∀ x ∈ r.ats, bget pl x = bget pl' x) → r.holds b pl = r.holds b' pl'
  | .most s, h1, _ => by
    rw [Rem.holds, Rem.holds, sval_same (b' := b') fun p hp => h1 p.1 (by rw [Rem.boxes]; exact List.mem_map_of_mem hp)]
  | .rest s m, h1, _ => by
    rw [Rem.holds, Rem.holds, sval_same (b' := b') fun p hp => h1 p.1 (by rw [Rem.boxes]; exact List.mem_map_of_mem hp)]
  | .at a p, _, h2 => by
    rw [Rem.holds, Rem.holds, h2 a (by rw [Rem.ats]; simp)]
  | .and rs, h1, h2 => by
    rw [Rem.boxes] at h1
    rw [Rem.ats] at h2
    rw [Rem.holds, Rem.holds, (holdss_same rs h1 h2).1]
  | .or rs, h1, h2 => by
    rw [Rem.boxes] at h1
    rw [Rem.ats] at h2
    rw [Rem.holds, Rem.holds, (holdss_same rs h1 h2).2]
  | .not r, h1, h2 => by
    rw [Rem.boxes] at h1
    rw [Rem.ats] at h2
    rw [Rem.holds, Rem.holds, holds_same r h1 h2]
theorem holdss_same {b b' pl pl' : Bk} : ∀ rs : List Rem, (∀ x ∈ boxess rs, bget b x = bget b' x) → (∀ x ∈ atss rs, bget pl x = bget pl' x) → hAll b pl rs = hAll b' pl' rs ∧ hAny b pl rs = hAny b' pl' rs
  | [], _, _ => by rw [hAll, hAll, hAny, hAny]; exact ⟨rfl, rfl⟩
  | r :: rs, h1, h2 => by
    rw [boxess] at h1
    rw [atss] at h2
    have a := holds_same r (fun x hx => h1 x (List.mem_append_left _ hx)) fun x hx => h2 x (List.mem_append_left _ hx)
    have c := holdss_same rs (fun x hx => h1 x (List.mem_append_right _ hx)) fun x hx => h2 x (List.mem_append_right _ hx)
    rw [hAll, hAll, hAny, hAny, a, c.1, c.2]
    exact ⟨rfl, rfl⟩
end
/-! ### stands -/
abbrev Std := List Int × List Int
def encStd (s : Std) : D := .tup [.tup (s.1.map D.int), .tup (s.2.map D.int)]
theorem ints_fit0 (l : List Int) : noDics (l.map D.int) = true ∧ deepAll (l.map D.int) ≤ 0 := map_fit (f := D.int) (n := 0) fun x _ => ⟨rfl, by simp [deepD]⟩
theorem std_fit (s : Std) : noDic (encStd s) = true ∧ deepD (encStd s) ≤ 2 := by
  have a := ints_fit0 s.1
  have b := ints_fit0 s.2
  unfold encStd
  refine ⟨by simp [noDic, noDics, a.1, b.1], ?_⟩
  simp only [deepD, deepAll]
  omega
def bkOf (ns : List Str) (vs : List Int) : Bk := ns.zip vs
theorem bkOf_keys {ns : List Str} {vs : List Int} (h : vs.length = ns.length) : (bkOf ns vs).map (·.1) = ns := by
  unfold bkOf
  rw [List.map_fst_zip (by omega)]
def afterSets (f : Sm → Int) (sets : List (Str × Sm)) (b : Bk) : Bk := sets.foldl (fun b q => bset b q.1 (f q.2)) b
theorem afterSets_keys (f : Sm → Int) : ∀ (sets : List (Str × Sm)) (b : Bk), (afterSets f sets b).map (·.1) = b.map (·.1)
  | [], b => rfl
  | q :: sets, b => by
    show (afterSets f sets (bset b q.1 (f q.2))).map (·.1) = _
    rw [afterSets_keys f sets, bset_keys]
/-- what the sets tell of a box -/
def toldBy : List (Str × Sm) → Str → Option Sm
  | [], _ => none
  | (j, s) :: r, x => if j = x then some s else toldBy r x
theorem toldBy_none {sets : List (Str × Sm)} {x : Str} : x ∉ sets.map (·.1) → toldBy sets x = none := by
  induction sets with
  | nil => intro _; rfl
  | cons q r ih =>
    intro h
    obtain ⟨j, s⟩ := q
    simp only [List.map_cons, List.mem_cons, not_or] at h
    rw [toldBy, if_neg (fun e => h.1 e.symm), ih h.2]
theorem toldBy_some {sets : List (Str × Sm)} {x : Str} {s : Sm} : toldBy sets x = some s → (x, s) ∈ sets := by
  induction sets with
  | nil => intro h; cases h
  | cons q r ih =>
    intro h
    obtain ⟨j, t⟩ := q
    rw [toldBy] at h
    split at h
    · rename_i e
      cases h
      subst e
      exact List.mem_cons_self
    · exact List.mem_cons_of_mem _ (ih h)
theorem after_get (f : Sm → Int) : ∀ (sets : List (Str × Sm)) (b : Bk), (sets.map (·.1)).Nodup → (∀ q ∈ sets, q.1 ∈ b.map (·.1)) → ∀ y, bget (afterSets f sets b) y = match toldBy sets y with | some s => f s | none => bget b y
  | [], b, _, _, y => rfl
  | (j, s) :: r, b, nd, hk, y => by
    show bget (afterSets f r (bset b j (f s))) y = _
    obtain ⟨n1, n2⟩ := List.nodup_cons.mp nd
    rw [after_get f r _ n2 (fun q hq => by rw [bset_keys]; exact hk q (List.mem_cons_of_mem _ hq)), toldBy, bset_get (hk (j, s) List.mem_cons_self)]
    by_cases e : j = y
    · subst e
      rw [if_pos rfl, toldBy_none n1]
      simp
    · rw [if_neg e, if_neg e]
structure Prg.Names (p : Prg) : Prop where
  boxes : (p.boxes.map (·.name)).Nodup
  hands : (p.hands.map (·.1)).Nodup
section
variable (p : Prg)
def Prg.book (s : Std) : Bk := bkOf (p.boxes.map (·.name)) s.2
def Prg.places (s : Std) : Bk := bkOf (p.hands.map (·.1)) s.1
def Prg.inRange (b : Bk) : Bool := p.boxes.all fun x => decide (x.low ≤ bget b x.name) && decide (bget b x.name ≤ x.high)
def Prg.behind (st : Std) (s : Stp) : Option Std :=
  if bget (p.places st) s.hand ≠ s.here ∨ s.guard.holds (p.book st) (p.places st) = false then none
  else if p.inRange (afterSets (sval (p.book st)) s.sets (p.book st)) = true then
    some (p.hands.map (fun h => bget (bset (p.places st) s.hand s.there) h.1), p.boxes.map fun x => bget (afterSets (sval (p.book st)) s.sets (p.book st)) x.name)
  else none
/-- a stand of the program -/
structure Prg.Is (st : Std) : Prop where
  pl : st.1.length = p.hands.length
  vl : st.2.length = p.boxes.length
  rng : p.inRange (p.book st) = true
structure Prg.Fits (s : Stp) : Prop where
  hand : s.hand ∈ p.hands.map (·.1)
  nodup : (s.sets.map (·.1)).Nodup
  keys : ∀ q ∈ s.sets, q.1 ∈ p.boxes.map (·.name)
end
theorem bget_zip {ns : List Str} {vs : List Int} {f : Str → Int} : ∀ {l : List Str}, (bkOf l (l.map f)) = l.map fun x => (x, f x)
  | [] => rfl
  | x :: l => by
    unfold bkOf
    rw [List.map_cons, List.zip_cons_cons, List.map_cons]
    congr 1
    exact bget_zip (ns := ns) (vs := vs)
theorem bget_map {f : Str → Int} {x : Str} : ∀ {l : List Str}, x ∈ l → bget (l.map fun x => (x, f x)) x = f x
  | y :: l, h => by
    rw [List.map_cons, bget]
    split
    · rename_i e; rw [e]
    · rename_i e
      rcases List.mem_cons.mp h with q | q
      · exact absurd q.symm e
      · exact bget_map q
theorem bget_of {f : Str → Int} {l : List Str} {x : Str} (h : x ∈ l) : bget (bkOf l (l.map f)) x = f x := by
  rw [bget_zip (ns := []) (vs := []), bget_map h]

section
variable {p : Prg}
theorem book_keys {st : Std} (h : p.Is st) : (p.book st).map (·.1) = p.boxes.map (·.name) := bkOf_keys (by rw [h.vl, List.length_map])
theorem places_keys {st : Std} (h : p.Is st) : (p.places st).map (·.1) = p.hands.map (·.1) := bkOf_keys (by rw [h.pl, List.length_map])
theorem behind_some {st st' : Std} {s : Stp} (h : p.behind st s = some st') : bget (p.places st) s.hand = s.here ∧ s.guard.holds (p.book st) (p.places st) = true ∧ p.inRange (afterSets (sval (p.book st)) s.sets (p.book st)) = true ∧
    st' = (p.hands.map (fun h => bget (bset (p.places st) s.hand s.there) h.1), p.boxes.map fun x => bget (afterSets (sval (p.book st)) s.sets (p.book st)) x.name) := by
  unfold Prg.behind at h
  split at h
  · cases h
  · rename_i c
    split at h
    · rename_i d
      cases h
      simp only [not_or, ne_eq, Decidable.not_not, Bool.not_eq_false] at c
      exact ⟨c.1, c.2, d, rfl⟩
    · cases h
theorem behind_iff {st : Std} {s : Stp} : (p.behind st s).isSome = true ↔ bget (p.places st) s.hand = s.here ∧ s.guard.holds (p.book st) (p.places st) = true ∧ p.inRange (afterSets (sval (p.book st)) s.sets (p.book st)) = true := by
  constructor
  · intro h
    obtain ⟨x, hx⟩ := Option.isSome_iff_exists.mp h
    obtain ⟨a, b, c, _⟩ := behind_some hx
    exact ⟨a, b, c⟩
  · rintro ⟨a, b, c⟩
    unfold Prg.behind
    rw [if_neg (by simp [a, b]), if_pos c]
    rfl
theorem book_behind {st st' : Std} {s : Stp} (h : p.behind st s = some st') {x : Str} (hx : x ∈ p.boxes.map (·.name)) : bget (p.book st') x = bget (afterSets (sval (p.book st)) s.sets (p.book st)) x := by
  obtain ⟨_, _, _, e⟩ := behind_some h
  unfold Prg.book at *
  rw [e]
  have := bget_of (f := fun x => bget (afterSets (sval (bkOf (p.boxes.map (·.name)) st.2)) s.sets (bkOf (p.boxes.map (·.name)) st.2)) x) hx
  rw [List.map_map] at this
  exact this
theorem places_behind {st st' : Std} {s : Stp} (h : p.behind st s = some st') {x : Str} (hx : x ∈ p.hands.map (·.1)) : bget (p.places st') x = bget (bset (p.places st) s.hand s.there) x := by
  obtain ⟨_, _, _, e⟩ := behind_some h
  unfold Prg.places at *
  rw [e]
  have := bget_of (f := fun x => bget (bset (bkOf (p.hands.map (·.1)) st.1) s.hand s.there) x) hx
  rw [List.map_map] at this
  exact this
theorem inRange_same {b b' : Bk} (h : ∀ x ∈ p.boxes.map (·.name), bget b x = bget b' x) : p.inRange b = p.inRange b' := by
  unfold Prg.inRange
  rw [Bool.eq_iff_iff, List.all_eq_true, List.all_eq_true]
  constructor
  · intro q x hx
    rw [← h x.name (List.mem_map_of_mem hx)]
    exact q x hx
  · intro q x hx
    rw [h x.name (List.mem_map_of_mem hx)]
    exact q x hx
theorem behind_is {st st' : Std} {s : Stp} (h : p.behind st s = some st') : p.Is st' := by
  have hb := fun x hx => book_behind h (x := x) hx
  obtain ⟨_, _, c, e⟩ := behind_some h
  refine ⟨by rw [e]; simp, by rw [e]; simp, ?_⟩
  rw [inRange_same hb]
  exact c
/-- the names that a remark and sets of a step ask lie within the program's -/
structure Prg.Asks (p : Prg) (s : Stp) : Prop extends p.Fits s where
  gb : ∀ x ∈ s.guard.boxes, x ∈ p.boxes.map (·.name)
  ga : ∀ x ∈ s.guard.ats, x ∈ p.hands.map (·.1)
  sb : ∀ q ∈ s.sets, ∀ r ∈ q.2.2, r.1 ∈ p.boxes.map (·.name)
/-- a changes nothing that b names -/
structure Apart (a b : Stp) : Prop where
  hand : a.hand ≠ b.hand
  ats : a.hand ∉ b.guard.ats
  guard : ∀ q ∈ a.sets, q.1 ∉ b.guard.boxes
  sets : ∀ q ∈ a.sets, q.1 ∉ b.sets.map (·.1)
  sums : ∀ q ∈ a.sets, ∀ r ∈ b.sets, ∀ t ∈ r.2.2, q.1 ≠ t.1
theorem toldBy_mem {sets : List (Str × Sm)} {x : Str} {s : Sm} (h : toldBy sets x = some s) : x ∈ sets.map (·.1) := List.mem_map.mpr ⟨(x, s), toldBy_some h, rfl⟩
/-- what stays behind a for b -/
theorem book_stays {st st' : Std} {a : Stp} (is : p.Is st) (fa : p.Fits a) (h : p.behind st a = some st') {x : Str} (hx : x ∈ p.boxes.map (·.name)) (hn : x ∉ a.sets.map (·.1)) : bget (p.book st') x = bget (p.book st) x := by
  rw [book_behind h hx, after_get _ _ _ fa.nodup (fun q hq => by rw [book_keys is]; exact fa.keys q hq), toldBy_none hn]
theorem places_stay {st st' : Std} {a : Stp} (is : p.Is st) (fa : p.Fits a) (h : p.behind st a = some st') {x : Str} (hx : x ∈ p.hands.map (·.1)) (hn : a.hand ≠ x) : bget (p.places st') x = bget (p.places st) x := by
  rw [places_behind h hx, bset_get (by rw [places_keys is]; exact fa.hand), if_neg hn]
theorem not_mem_sets {a : Stp} {P : Str → Prop} (h : ∀ q ∈ a.sets, ¬ P q.1) {x : Str} (hx : P x) : x ∉ a.sets.map (·.1) := fun m => by
  obtain ⟨q, hq, rfl⟩ := List.mem_map.mp m
  exact h q hq hx
theorem sums_stay {st st' : Std} {a b : Stp} (is : p.Is st) (fa : p.Fits a) (fb : p.Asks b) (d : Apart a b) (h : p.behind st a = some st') : ∀ q ∈ b.sets, sval (p.book st') q.2 = sval (p.book st) q.2 := fun q hq =>
  sval_same fun t ht => book_stays is fa h (fb.sb q hq t ht) fun m => by
    obtain ⟨r, hr, e⟩ := List.mem_map.mp m
    exact d.sums r hr q hq t ht e
/-- the book behind b, ahead of it a: what b sets is the same, else what a left -/
theorem after_both {st st' : Std} {a b : Stp} (is : p.Is st) (fa : p.Fits a) (fb : p.Asks b) (d : Apart a b) (h : p.behind st a = some st') {x : Str} (hx : x ∈ p.boxes.map (·.name)) :
    bget (afterSets (sval (p.book st')) b.sets (p.book st')) x = match toldBy b.sets x with | some s => sval (p.book st) s | none => match toldBy a.sets x with | some s => sval (p.book st) s | none => bget (p.book st) x := by
  have is' := behind_is h
  rw [after_get _ _ _ fb.nodup (fun q hq => by rw [book_keys is']; exact fb.keys q hq)]
  cases e : toldBy b.sets x with
  | some s => exact sums_stay is fa fb d h (x, s) (toldBy_some e)
  | none =>
    dsimp only
    rw [book_behind h hx, after_get _ _ _ fa.nodup (fun q hq => by rw [book_keys is]; exact fa.keys q hq)]
theorem range_iff {b : Bk} : p.inRange b = true ↔ ∀ x ∈ p.boxes, x.low ≤ bget b x.name ∧ bget b x.name ≤ x.high := by
  unfold Prg.inRange
  rw [List.all_eq_true]
  simp only [Bool.and_eq_true, decide_eq_true_eq]
/-- what can be done behind a parted step -/
theorem can_apart {st st' : Std} {a b : Stp} (is : p.Is st) (fa : p.Fits a) (fb : p.Asks b) (d : Apart a b) (h : p.behind st a = some st') : (p.behind st' b).isSome = (p.behind st b).isSome := by
  have is' := behind_is h
  have e1 : bget (p.places st') b.hand = bget (p.places st) b.hand := places_stay is fa h fb.hand d.hand
  have e2 : b.guard.holds (p.book st') (p.places st') = b.guard.holds (p.book st) (p.places st) := holds_same b.guard
    (fun x hx => book_stays is fa h (fb.gb x hx) (not_mem_sets (P := fun y => y ∈ b.guard.boxes) d.guard hx))
    (fun x hx => places_stay is fa h (fb.ga x hx) fun z => d.ats (by rw [z]; exact hx))
  rw [Bool.eq_iff_iff, behind_iff, behind_iff, e1, e2, range_iff, range_iff]
  have hr' := range_iff.mp is'.rng
  have hr := range_iff.mp is.rng
  refine and_congr_right fun _ => and_congr_right fun _ => forall_congr' fun x => ?_
  refine forall_congr' fun hx => ?_
  have hm := List.mem_map_of_mem (f := (·.name)) hx
  have q1 := after_get (sval (p.book st')) b.sets (p.book st') fb.nodup (fun q hq => by rw [book_keys is']; exact fb.keys q hq) x.name
  have q2 := after_get (sval (p.book st)) b.sets (p.book st) fb.nodup (fun q hq => by rw [book_keys is]; exact fb.keys q hq) x.name
  cases e : toldBy b.sets x.name with
  | some s =>
    rw [e] at q1 q2
    dsimp only at q1 q2
    rw [q1, q2, sums_stay is fa fb d h (x.name, s) (toldBy_some e)]
  | none =>
    rw [e] at q1 q2
    dsimp only at q1 q2
    rw [q1, q2]
    exact ⟨fun _ => hr x hx, fun _ => hr' x hx⟩
theorem std_eq {st st' : Std} (a : st.1 = st'.1) (b : st.2 = st'.2) : st = st' := by
  obtain ⟨x, y⟩ := st
  obtain ⟨z, w⟩ := st'
  cases a
  cases b
  rfl
/-- both orders lead to one stand -/
theorem order_apart {st sa sb sab sba : Std} {a b : Stp} (is : p.Is st) (fa : p.Asks a) (fb : p.Asks b) (d : Apart a b) (d' : Apart b a) (ha : p.behind st a = some sa) (hb : p.behind st b = some sb) (hab : p.behind sa b = some sab) (hba : p.behind sb a = some sba) : sab = sba := by
  have isa := behind_is ha
  have isb := behind_is hb
  obtain ⟨_, _, _, e1⟩ := behind_some hab
  obtain ⟨_, _, _, e2⟩ := behind_some hba
  refine std_eq ?_ ?_
  · rw [e1, e2]
    refine List.map_congr_left fun h hh => ?_
    have hm := List.mem_map_of_mem (f := (·.1)) hh
    show bget (bset (p.places sa) b.hand b.there) h.1 = bget (bset (p.places sb) a.hand a.there) h.1
    rw [bset_get (by rw [places_keys isa]; exact fb.hand), bset_get (by rw [places_keys isb]; exact fa.hand), places_behind ha hm, places_behind hb hm, bset_get (by rw [places_keys is]; exact fa.hand), bset_get (by rw [places_keys is]; exact fb.hand)]
    by_cases x : b.hand = h.1
    · rw [if_pos x, if_neg (fun z => d.hand (by rw [z, x])), if_pos x]
    · rw [if_neg x, if_neg x]
  · rw [e1, e2]
    refine List.map_congr_left fun x hx => ?_
    have hm := List.mem_map_of_mem (f := (·.name)) hx
    show bget (afterSets (sval (p.book sa)) b.sets (p.book sa)) x.name = bget (afterSets (sval (p.book sb)) a.sets (p.book sb)) x.name
    rw [after_both is fa.toFits fb d ha hm, after_both is fb.toFits fa d' hb hm]
    cases e : toldBy b.sets x.name with
    | some s =>
      have n : toldBy a.sets x.name = none := toldBy_none fun m => by
        obtain ⟨q, hq, z⟩ := List.mem_map.mp m
        exact d.sets q hq (by rw [z]; exact toldBy_mem e)
      rw [n]
    | none => rfl
end

/-! ### how these stand as data -/
theorem ap_dzM (ms : M (List D)) (s : DSt) : dictZipM ms s = bnd ms (fun ds => lift ((zipA ds).bind dzD)) s := rfl
theorem pairs_zip : ∀ (ns : List Str) (vs : List Int), pairsD (zipL (ns.map D.str) (vs.map D.int)) = some ((ns.zip vs).map fun p => ((Sum.inr p.1 : Key), D.int p.2))
  | [], vs => by simp [zipL, pairsD]
  | _ :: _, [] => by simp [zipL, pairsD]
  | n :: ns, v :: vs => by
    rw [List.map_cons, List.map_cons, zipL]
    show ((atomD (.str n)).bind fun κ => (pairsD (zipL (ns.map D.str) (vs.map D.int))).map fun z => (κ, D.int v) :: z) = _
    rw [pairs_zip ns vs]
    rfl
theorem put_new {k : DK} {v : D} : ∀ {kvs : List (DK × D)}, k ∉ kvs.map (·.1) → putD kvs k v = kvs ++ [(k, v)]
  | [], _ => rfl
  | (j, d) :: r, h => by
    simp only [List.map_cons, List.mem_cons, not_or] at h
    rw [putD, if_neg (fun e => h.1 e.symm), put_new h.2]
    rfl
theorem merge_new : ∀ (l : List (Str × Int)) (acc : List (DK × D)), (l.map (·.1)).Nodup → (∀ p ∈ l, DK.str p.1 ∉ acc.map (·.1)) → mergeD acc (l.map fun p => ((Sum.inr p.1 : Key), D.int p.2)) = acc ++ l.map fun p => (DK.str p.1, D.int p.2)
  | [], acc, _, _ => by simp [mergeD]
  | p :: l, acc, nd, h => by
    obtain ⟨n1, n2⟩ := List.nodup_cons.mp nd
    show mergeD (putD acc (DK.str p.1) (D.int p.2)) (l.map fun p => ((Sum.inr p.1 : Key), D.int p.2)) = _
    rw [put_new (h p List.mem_cons_self), merge_new l _ n2 fun q hq => ?_]
    · simp
    · rw [List.map_append, List.mem_append]
      rintro (m | m)
      · exact h q (List.mem_cons_of_mem _ hq) m
      · have e : DK.str q.1 = DK.str p.1 := by simpa using m
        have e := DK.str.inj e
        exact n1 (by show p.1 ∈ _; rw [← e]; exact List.mem_map_of_mem hq)
theorem dz_bk {ns : List Str} {vs : List Int} (nd : ns.Nodup) (hl : vs.length = ns.length) : dzD (zipL (ns.map D.str) (vs.map D.int)) = some (.own (encBk (bkOf ns vs))) := by
  unfold dzD
  rw [pairs_zip]
  show some (RV.own (.dic false (mergeD [] _))) = _
  rw [merge_new _ _ (by rw [List.map_fst_zip (by omega)]; exact nd) fun _ _ h => by cases h]
  rfl
theorem dict_bk (b : Bk) : dictD [encBk b] = some (.own (encBk b)) := rfl
theorem tru_encBk (b : Bk) : clsD (encBk b) = "dict" := rfl
theorem after_snoc (f : Sm → Int) (pre : List (Str × Sm)) (x : Str × Sm) (b : Bk) : afterSets f (pre ++ [x]) b = bset (afterSets f pre b) x.1 (f x.2) := by
  unfold afterSets
  rw [List.foldl_append]
  rfl
instance : Inhabited Stp := ⟨⟨"", 0, .and [], [], 0⟩⟩
def encN (n : Nat) : D := .int (n : Int)
theorem enc_n (n : Nat) : encN n = .int (n : Int) := rfl
theorem enc_bx (b : Bx) : encBx b = .tup [.str b.name, .str b.own, .int b.low, .int b.high, .int b.start] := rfl
theorem enc_hd (h : Str × Int) : encHd h = .tup [.str h.1, .int h.2] := rfl
theorem enc_set (s : Str × Sm) : encSet s = .tup [.str s.1, encSm s.2] := rfl
theorem enc_pr (p : Str × Int) : encPr p = .tup [.str p.1, .int p.2] := rfl
theorem enc_st (s : Stp) : encSt s = .tup [.str s.hand, .int s.here, encR s.guard, .tup (s.sets.map encSet), .int s.there] := rfl
theorem enc_std (s : Std) : encStd s = .tup [.tup (s.1.map D.int), .tup (s.2.map D.int)] := rfl
theorem prg_0 (p : Prg) : itemD (encPrg p) (.int 0) = some (.lst (p.boxes.map encBx)) := rfl
theorem prg_1 (p : Prg) : itemD (encPrg p) (.int 1) = some (.lst (p.hands.map encHd)) := rfl
theorem prg_2 (p : Prg) : itemD (encPrg p) (.int 2) = some (.lst (p.steps.map encSt)) := rfl
theorem std_0 (s : Std) : itemD (encStd s) (.int 0) = some (.tup (s.1.map D.int)) := rfl
theorem std_1 (s : Std) : itemD (encStd s) (.int 1) = some (.tup (s.2.map D.int)) := rfl
theorem sm_0 (s : Sm) : itemD (encSm s) (.int 0) = some (.int s.1) := rfl
theorem sm_1 (s : Sm) : itemD (encSm s) (.int 1) = some (.tup (s.2.map encPr)) := rfl
theorem isNon_tup (l : List D) : isNon (.tup l) = false := rfl
theorem isNon_non : isNon D.non = true := rfl
theorem at_step {p : Prg} {k : Nat} {s : Stp} (h : p.steps[k]? = some s) : atI (p.steps.map encSt) (k : Int) = some (encSt s) := atI_nat (by rw [List.getElem?_map, h]; rfl)
theorem bls_map {X : Type} (f : X → Bool) : ∀ l : List X, blsD (l.map fun x => D.bl (f x)) = some (l.map f)
  | [] => rfl
  | x :: l => by
    show (blsD (l.map fun x => D.bl (f x))).map (f x :: ·) = _
    rw [bls_map f l]
    rfl
theorem bget_mem {x : Str} : ∀ {b : Bk}, x ∈ b.map (·.1) → ∃ q ∈ b, bget b x = q.2
  | (j, v) :: b, h => by
    rw [bget]
    split
    · exact ⟨_, List.mem_cons_self, rfl⟩
    · rename_i e
      rcases List.mem_cons.mp h with q | q
      · exact absurd q.symm e
      · obtain ⟨z, hz, e2⟩ := bget_mem q
        exact ⟨z, List.mem_cons_of_mem _ hz, e2⟩
def encO : Option Std → D
  | none => .non
  | some s => encStd s
theorem isNon_encO (o : Option Std) : isNon (encO o) = !o.isSome := by cases o <;> rfl
def Prg.first (p : Prg) : Std := (p.hands.map fun _ => 0, p.boxes.map (·.start))
/-- what the walks ask of a program -/
structure Prg.Good (p : Prg) : Prop extends p.Names where
  blen : p.boxes.length ≤ 100
  hlen : p.hands.length ≤ 100
  slen : p.steps.length ≤ 1000
  bnds : ∀ b ∈ p.boxes, Sml b.low ∧ Sml b.high
  asks : ∀ s ∈ p.steps, p.Asks s
  guard : ∀ s ∈ p.steps, s.guard.ok (SmIn (p.boxes.map (·.name))) (p.hands.map (·.1)) ∧ s.guard.deep ≤ 20
  sums : ∀ s ∈ p.steps, ∀ q ∈ s.sets, SmIn (p.boxes.map (·.name)) q.2
theorem book_small {p : Prg} (g : p.Good) {st : Std} (is : p.Is st) : ∀ x ∈ p.boxes.map (·.name), Sml (bget (p.book st) x) := fun x hx => by
  obtain ⟨b, hb, rfl⟩ := List.mem_map.mp hx
  have h := range_iff.mp is.rng b hb
  have q := g.bnds b hb
  unfold Sml at *
  omega
mutual
theorem ok_boxes {P : Sm → Prop} {hs ks : List Str} (h : ∀ s, P s → ∀ q ∈ s.2, q.1 ∈ ks) : ∀ r : Rem, r.ok P hs → ∀ x ∈ r.boxes, x ∈ ks
  | .most s, o => fun x hx => by
    rw [Rem.ok] at o
    rw [Rem.boxes] at hx
    obtain ⟨q, hq, rfl⟩ := List.mem_map.mp hx
    exact h s o q hq
  | .rest s m, o => fun x hx => by
    rw [Rem.ok] at o
    rw [Rem.boxes] at hx
    obtain ⟨q, hq, rfl⟩ := List.mem_map.mp hx
    exact h s o.1 q hq
  | .at a p, o => fun x hx => by rw [Rem.boxes] at hx; cases hx
  | .and rs, o => by rw [Rem.ok] at o; rw [Rem.boxes]; exact oks_boxes h rs o.2
  | .or rs, o => by rw [Rem.ok] at o; rw [Rem.boxes]; exact oks_boxes h rs o.2
  | .not r, o => by rw [Rem.ok] at o; rw [Rem.boxes]; exact ok_boxes h r o
theorem oks_boxes {P : Sm → Prop} {hs ks : List Str} (h : ∀ s, P s → ∀ q ∈ s.2, q.1 ∈ ks) : ∀ rs : List Rem, oks P hs rs → ∀ x ∈ boxess rs, x ∈ ks
  | [], _ => fun x hx => by rw [boxess] at hx; cases hx
  | r :: rs, o => fun x hx => by
    rw [oks] at o
    rw [boxess, List.mem_append] at hx
    exact hx.elim (ok_boxes h r o.1 x) (oks_boxes h rs o.2 x)
end
mutual
theorem ok_ats {P : Sm → Prop} {hs : List Str} : ∀ r : Rem, r.ok P hs → ∀ x ∈ r.ats, x ∈ hs
  | .most s, o => fun x hx => by rw [Rem.ats] at hx; cases hx
  | .rest s m, o => fun x hx => by rw [Rem.ats] at hx; cases hx
  | .at a p, o => fun x hx => by
    rw [Rem.ok] at o
    rw [Rem.ats] at hx
    rw [List.mem_singleton.mp hx]
    exact o.1
  | .and rs, o => by rw [Rem.ok] at o; rw [Rem.ats]; exact oks_ats rs o.2
  | .or rs, o => by rw [Rem.ok] at o; rw [Rem.ats]; exact oks_ats rs o.2
  | .not r, o => by rw [Rem.ok] at o; rw [Rem.ats]; exact ok_ats r o
theorem oks_ats {P : Sm → Prop} {hs : List Str} : ∀ rs : List Rem, oks P hs rs → ∀ x ∈ atss rs, x ∈ hs
  | [], _ => fun x hx => by rw [atss] at hx; cases hx
  | r :: rs, o => fun x hx => by
    rw [oks] at o
    rw [atss, List.mem_append] at hx
    exact hx.elim (ok_ats r o.1 x) (oks_ats rs o.2 x)
end
theorem range_all2 : ∀ {bs : List Bx} {vs : List Int}, All2 (fun (b : Bx) (v : Int) => b.low ≤ v ∧ v ≤ b.high) bs vs → (bs.map (·.name)).Nodup → ∀ x ∈ bs, x.low ≤ bget (bkOf (bs.map (·.name)) vs) x.name ∧ bget (bkOf (bs.map (·.name)) vs) x.name ≤ x.high
  | _, _, .nil, _ => fun x hx => by cases hx
  | b :: bs, v :: vs, .cons h t, nd => fun x hx => by
    obtain ⟨n1, n2⟩ := List.nodup_cons.mp nd
    have e : bkOf ((b :: bs).map (·.name)) (v :: vs) = (b.name, v) :: bkOf (bs.map (·.name)) vs := rfl
    rw [e, bget]
    rcases List.mem_cons.mp hx with rfl | m
    · rw [if_pos rfl]
      exact h
    · rw [if_neg (fun z => n1 (by show b.name ∈ _; rw [z]; exact List.mem_map_of_mem (f := fun x : Bx => x.name) m))]
      exact range_all2 t n2 x m
theorem all2_map {X Y : Type} {R : X → Y → Prop} {f : X → Y} : ∀ {xs : List X}, (∀ x ∈ xs, R x (f x)) → All2 R xs (xs.map f)
  | [], _ => .nil
  | x :: xs, h => .cons (h x List.mem_cons_self) (all2_map fun y hy => h y (List.mem_cons_of_mem _ hy))
theorem all2_typed {X Y : Type} {enc : Y → D} {R : X → Y → Prop} : ∀ {xs : List X} {ds : List D}, All2 (fun x d => ∃ y, d = enc y ∧ R x y) xs ds → ∃ ys : List Y, ds = ys.map enc ∧ All2 R xs ys
  | _, _, .nil => ⟨[], rfl, .nil⟩
  | _, _, .cons h t => by
    obtain ⟨y, rfl, p⟩ := h
    obtain ⟨ys, rfl, q⟩ := all2_typed t
    exact ⟨y :: ys, rfl, .cons p q⟩
theorem in_N (k : Nat) (l : List Nat) : inD (.int (k : Int)) (.lst (l.map encN)) = some (.bl (decide (k ∈ l))) := by
  show ((if inOk (.int (k : Int)) (l.map encN) = true then some ((l.map encN).any fun z => eqvD z (.int (k : Int))) else none).map fun b => D.bl b) = _
  have n : noDics (l.map encN) = true := noDics_of fun d m => by
    obtain ⟨x, _, rfl⟩ := List.mem_map.mp m
    rfl
  rw [if_pos (show inOk (.int (k : Int)) (l.map encN) = true by unfold inOk; rw [n]; rfl), Option.map_some]
  congr 2
  induction l with
  | nil => rfl
  | cons y l ih =>
    have n' : noDics (l.map encN) = true := noDics_of fun d m => by
      obtain ⟨x, _, rfl⟩ := List.mem_map.mp m
      rfl
    rw [List.map_cons, List.any_cons, ih n']
    unfold encN
    simp only [eqvD]
    by_cases h : y = k
    · subst h
      simp
    · have h2 : ¬ k = y := fun e => h e.symm
      have h3 : ¬ (y : Int) = (k : Int) := fun e => h (by omega)
      simp [h, h2, h3]
theorem notin_N (k : Nat) (l : List Nat) : notinD (.int (k : Int)) (.lst (l.map encN)) = some (.bl (!decide (k ∈ l))) := by
  have h := in_N k l
  rw [in_def] at h
  rw [notin_def]
  cases e : inB (.int (k : Int)) (.lst (l.map encN)) with
  | none => rw [e] at h; cases h
  | some b =>
    rw [e] at h
    have h : D.bl b = D.bl (decide (k ∈ l)) := Option.some.inj h
    have h := D.bl.inj h
    rw [h]
    rfl
theorem ne_bl (a b : Bool) : neD (.bl a) (.bl b) = some (.bl (a != b)) := by cases a <;> cases b <;> rfl
end Cal

end
section
set_option autoImplicit false
namespace Cal
open PySem L2 Dt
theorem ints_map {X : Type} (f : X → Int) : ∀ l : List X, intsD (l.map fun x => D.int (f x)) = some (l.map f)
  | [] => rfl
  | x :: l => by
    show (intsD (l.map fun x => D.int (f x))).map (f x :: ·) = _
    rw [ints_map f l]
    rfl
theorem bls_noDics {X : Type} (f : X → Bool) (l : List X) : noDics (l.map fun x => D.bl (f x)) = true := noDics_of fun d m => by
  obtain ⟨x, _, rfl⟩ := List.mem_map.mp m
  rfl
theorem inB_bls {X : Type} (f : X → Bool) (l : List X) (b : Bool) : inB (.bl b) (.lst (l.map fun x => D.bl (f x))) = some (l.any fun x => f x == b) := by
  show (if inOk (.bl b) (l.map fun x => D.bl (f x)) = true then some ((l.map fun x => D.bl (f x)).any fun z => eqvD z (.bl b)) else none) = _
  rw [if_pos (show inOk (.bl b) (l.map fun x => D.bl (f x)) = true by unfold inOk; rw [bls_noDics]; rfl), List.any_map]
  have : ((fun z => eqvD z (D.bl b)) ∘ fun x => D.bl (f x)) = fun x => f x == b := by
    funext x
    show eqvD (.bl (f x)) (.bl b) = _
    cases f x <;> cases b <;> simp [eqvD]
  rw [this]
theorem in_true {X : Type} (f : X → Bool) (l : List X) : inD (.bl true) (.lst (l.map fun x => D.bl (f x))) = some (.bl ((l.map f).any id)) := by
  rw [in_def, inB_bls, List.any_map]
  simp [Function.comp_def]
theorem notin_false {X : Type} (f : X → Bool) (l : List X) : notinD (.bl false) (.lst (l.map fun x => D.bl (f x))) = some (.bl ((l.map f).all id)) := by
  rw [notin_def, inB_bls, List.all_map, Option.map_some, List.all_eq_not_any_not]
  simp [Function.comp_def]
theorem isi_ib : isiB "int" "bool" = false := by decide
/-- a loop that may be left -/
theorem for_brk {X : Type} {enc : X → D} {f : Tg} {b : MS} (I : DSt → Prop) : ∀ (xs : List X) (s : DSt), I s → (∀ x ∈ xs, ∀ s, I s → OkS (for2 f b (enc x) s) fun fl s' => (fl = .nx ∨ fl = .bk) ∧ I s') → ∃ s', forM f b (xs.map enc) s = some (.nx, s') ∧ I s'
  | [], s, hi, _ => ⟨s, rfl, hi⟩
  | x :: xs, s, hi, h => by
    obtain ⟨fl, s1, e, q, i1⟩ := (h x List.mem_cons_self s hi).ex
    rw [List.map_cons, forM_cons2, e]
    rcases q with rfl | rfl
    · exact for_brk I xs s1 i1 fun y hy => h y (List.mem_cons_of_mem _ hy)
    · exact ⟨s1, rfl, i1⟩
theorem fitN (l : List Nat) : noDic (.lst (l.map encN)) = true ∧ deepD (.lst (l.map encN)) ≤ 64 := by
  have h := map_fit (f := encN) (n := 0) (l := l) fun x _ => ⟨rfl, by simp [encN, deepD]⟩
  refine ⟨by simp [noDic, h.1], ?_⟩
  rw [deepD]
  omega
theorem ne_N (l : List Nat) : neD (.lst (l.map encN)) (.lst (l.map encN)) = some (.bl false) := ne_self (fitN l).1 (fitN l).2
theorem eq_N (l : List Nat) : eqD (.lst (l.map encN)) (.lst (l.map encN)) = some (.bl true) := eq_self (fitN l).1 (fitN l).2
theorem ne_Nnil (l : List Nat) : neD (.lst (l.map encN)) (.lst []) = some (.bl (!l.isEmpty)) := by
  have h := fitN l
  unfold neD
  rw [if_pos (eqOk_of h.1 (by simp [noDic, noDics]) h.2)]
  cases l <;> simp [eqvD, eqvAll]
theorem eq_Nnil (l : List Nat) : eqD (.lst (l.map encN)) (.lst []) = some (.bl l.isEmpty) := by
  have h := fitN l
  unfold eqD
  rw [if_pos (eqOk_of h.1 (by simp [noDic, noDics]) h.2)]
  cases l <;> simp [eqvD, eqvAll]
theorem ne_std (s : Std) : neD (encStd s) (encStd s) = some (.bl false) := ne_self (std_fit s).1 (by have := (std_fit s).2; omega)
theorem eq_std (s : Std) : eqD (encStd s) (encStd s) = some (.bl true) := eq_self (std_fit s).1 (by have := (std_fit s).2; omega)
theorem encO_fit (o : Option Std) : noDic (encO o) = true ∧ deepD (encO o) ≤ 64 := by
  cases o with
  | none => exact ⟨rfl, by simp [encO, deepD]⟩
  | some s =>
    have := std_fit s
    exact ⟨this.1, by show deepD (encStd s) ≤ 64; omega⟩
theorem ne_O (o : Option Std) : neD (encO o) (encO o) = some (.bl false) := ne_self (encO_fit o).1 (encO_fit o).2
theorem eq_O (o : Option Std) : eqD (encO o) (encO o) = some (.bl true) := eq_self (encO_fit o).1 (encO_fit o).2
theorem enc_some (s : Std) : encO (some s) = encStd s := rfl
theorem atN {l : List Nat} {i : Nat} (h : i < l.length) : atI (l.map encN) (i : Int) = some (encN (l.getD i 0)) := by
  refine atI_nat ?_
  rw [List.getElem?_map, List.getD_eq_getElem?_getD, List.getElem?_eq_getElem h]
  rfl
theorem len_encN (l : List Nat) : (l.map encN).length = l.length := List.length_map _
end Cal

end
section
set_option autoImplicit false
/-! Sums of pairs, added, taken times, put; what a remark asks ahead of a step. -/
namespace Cal
open PySem L2 Dt
abbrev Pr := Str × Int
def lin (f : Str → Int) (ps : List Pr) : Int := (ps.map fun p => p.2 * f p.1).sum
theorem lin_nil (f : Str → Int) : lin f [] = 0 := rfl
theorem lin_cons (f : Str → Int) (p : Pr) (ps : List Pr) : lin f (p :: ps) = p.2 * f p.1 + lin f ps := by unfold lin; simp
theorem lin_append (f : Str → Int) (a b : List Pr) : lin f (a ++ b) = lin f a + lin f b := by unfold lin; simp
theorem sum_perm {a b : List Int} (h : a.Perm b) : a.sum = b.sum := by
  induction h with
  | nil => rfl
  | cons x _ ih => simp [ih]
  | swap x y l => simp only [List.sum_cons]; omega
  | trans _ _ i1 i2 => exact i1.trans i2
theorem len_sub {X : Type} [DecidableEq X] : ∀ (l ks : List X), l.Nodup → (∀ x ∈ l, x ∈ ks) → l.length ≤ ks.length
  | [], ks, _, _ => by simp
  | a :: l, ks, nd, h => by
    obtain ⟨n1, n2⟩ := List.nodup_cons.mp nd
    have ha := h a List.mem_cons_self
    have := len_sub l (ks.erase a) n2 fun x hx => (List.mem_erase_of_ne (fun e => n1 (by rw [← e]; exact hx))).mpr (h x (List.mem_cons_of_mem _ hx))
    have e := List.length_erase_of_mem ha
    have := List.length_pos_of_mem ha
    rw [List.length_cons]
    omega
theorem lin_perm (f : Str → Int) {a b : List Pr} (h : a.Perm b) : lin f a = lin f b := by
  unfold lin
  exact sum_perm (h.map _)
theorem lin_filter (f : Str → Int) : ∀ ps : List Pr, lin f (ps.filter fun p => !(p.2 == 0)) = lin f ps
  | [] => rfl
  | p :: ps => by
    rw [List.filter_cons, lin_cons]
    by_cases h : p.2 = 0
    · rw [if_neg (by simp [h]), lin_filter f ps, h]
      omega
    · rw [if_pos (by simp [h]), lin_cons, lin_filter f ps]
theorem lin_mul (f : Str → Int) (t : Int) : ∀ ps : List Pr, lin f (ps.map fun p => (p.1, p.2 * t)) = lin f ps * t
  | [] => by simp [lin]
  | p :: ps => by
    rw [List.map_cons, lin_cons, lin_cons, lin_mul f t ps, Int.add_mul]
    congr 1
    rw [Int.mul_assoc, Int.mul_assoc, Int.mul_comm t]
def ind (x : Str) (y : Str) : Int := if y = x then 1 else 0
theorem ind_out {x : Str} : ∀ {ps : List Pr}, x ∉ ps.map (·.1) → lin (ind x) ps = 0
  | [], _ => rfl
  | p :: ps, h => by
    simp only [List.map_cons, List.mem_cons, not_or] at h
    rw [lin_cons, ind_out h.2, ind, if_neg (fun e => h.1 e.symm)]
    omega
theorem ind_in {x : Str} {t : Int} : ∀ {ps : List Pr}, (ps.map (·.1)).Nodup → (x, t) ∈ ps → lin (ind x) ps = t
  | p :: ps, nd, h => by
    obtain ⟨n1, n2⟩ := List.nodup_cons.mp nd
    rw [lin_cons]
    rcases List.mem_cons.mp h with e | m
    · subst e
      rw [ind_out n1, ind, if_pos rfl]
      omega
    · have hm := List.mem_map_of_mem (f := (·.1)) m
      rw [ind_in n2 m, ind, if_neg (fun e => n1 (by show p.1 ∈ _; rw [e]; exact hm))]
      omega
/-- the coefficients are within N, the boxes among ks, each once -/
structure SB (ks : List Str) (N : Int) (s : List Pr) : Prop where
  nd : (s.map (·.1)).Nodup
  ks : ∀ p ∈ s, p.1 ∈ ks
  lo : ∀ p ∈ s, -N ≤ p.2 ∧ p.2 ≤ N
theorem SB.ind {ks : List Str} {N : Int} {s : List Pr} (h : SB ks N s) (h0 : 0 ≤ N) (x : Str) : -N ≤ lin (ind x) s ∧ lin (ind x) s ≤ N := by
  by_cases m : x ∈ s.map (·.1)
  · obtain ⟨p, hp, rfl⟩ := List.mem_map.mp m
    rw [ind_in h.nd (show (p.1, p.2) ∈ s from hp)]
    exact h.lo p hp
  · rw [ind_out m]
    omega
theorem SB.len {ks : List Str} {N : Int} {s : List Pr} (h : SB ks N s) : s.length ≤ ks.length := by
  have := len_sub _ ks h.nd (fun x hx => by
    obtain ⟨p, hp, rfl⟩ := List.mem_map.mp hx
    exact h.ks p hp)
  simpa using this
/-! the dict that adds up -/
def bput : Bk → Str → Int → Bk
  | [], x, v => [(x, v)]
  | (j, w) :: b, x, v => if j = x then (j, v) :: b else (j, w) :: bput b x v
theorem put_bput {x : Str} {v : Int} : ∀ {b : Bk}, putD (b.map fun p => (DK.str p.1, D.int p.2)) (.str x) (.int v) = (bput b x v).map fun p => (DK.str p.1, D.int p.2)
  | [] => rfl
  | (j, w) :: b => by
    rw [List.map_cons, putD, bput]
    by_cases e : j = x
    · subst e
      rw [if_pos rfl, if_pos rfl]
      rfl
    · rw [if_neg (fun q => e (by cases q; rfl)), if_neg e, List.map_cons, put_bput]
theorem bput_mem {x y : Str} {v : Int} : ∀ {b : Bk}, y ∈ (bput b x v).map (·.1) ↔ y ∈ b.map (·.1) ∨ y = x
  | [] => by simp [bput]
  | (j, w) :: b => by
    rw [bput]
    split
    · rename_i e
      subst e
      simp only [List.map_cons, List.mem_cons]
      constructor
      · rintro (h | h)
        · exact .inl (.inl h)
        · exact .inl (.inr h)
      · rintro ((h | h) | h)
        · exact .inl h
        · exact .inr h
        · exact .inl h
    · rw [List.map_cons, List.mem_cons, bput_mem, List.map_cons, List.mem_cons, or_assoc]
theorem bput_nd {x : Str} {v : Int} : ∀ {b : Bk}, (b.map (·.1)).Nodup → ((bput b x v).map (·.1)).Nodup
  | [], _ => by simp [bput]
  | (j, w) :: b, nd => by
    obtain ⟨n1, n2⟩ := List.nodup_cons.mp nd
    rw [bput]
    split
    · exact nd
    · rename_i e
      refine List.nodup_cons.mpr ⟨fun m => ?_, bput_nd n2⟩
      rcases bput_mem.mp m with h | h
      · exact n1 h
      · exact e h
theorem bput_len {x : Str} {v : Int} : ∀ {b : Bk}, (bput b x v).length ≤ b.length + 1
  | [] => by simp [bput]
  | (j, w) :: b => by
    have := bput_len (x := x) (v := v) (b := b)
    rw [bput]
    split <;> simp <;> omega
theorem lin_bput (f : Str → Int) {x : Str} {t : Int} : ∀ {b : Bk}, lin f (bput b x (bget b x + t)) = lin f b + t * f x
  | [] => by
    simp only [bput, bget, lin_cons, lin_nil, Int.zero_add, Int.add_zero]
  | (j, w) :: b => by
    rw [bput, bget]
    by_cases e : j = x
    · subst e
      rw [if_pos rfl, if_pos rfl, lin_cons, lin_cons, Int.add_mul]
      dsimp only
      omega
    · rw [if_neg e, if_neg e, lin_cons, lin_cons, lin_bput f]
      omega
def accB (b : Bk) (ps : List Pr) : Bk := ps.foldl (fun b p => bput b p.1 (bget b p.1 + p.2)) b
theorem accB_snoc (b : Bk) (ps : List Pr) (p : Pr) : accB b (ps ++ [p]) = bput (accB b ps) p.1 (bget (accB b ps) p.1 + p.2) := by
  unfold accB
  rw [List.foldl_append]
  rfl
theorem accB_lin (f : Str → Int) : ∀ (ps : List Pr) (b : Bk), lin f (accB b ps) = lin f b + lin f ps
  | [], b => by show lin f b = _; rw [lin_nil]; omega
  | p :: ps, b => by
    show lin f (accB (bput b p.1 (bget b p.1 + p.2)) ps) = _
    rw [accB_lin f ps, lin_bput, lin_cons]
    omega
theorem accB_nd : ∀ (ps : List Pr) (b : Bk), (b.map (·.1)).Nodup → ((accB b ps).map (·.1)).Nodup
  | [], b, h => h
  | p :: ps, b, h => accB_nd ps _ (bput_nd h)
theorem accB_len : ∀ (ps : List Pr) (b : Bk), (accB b ps).length ≤ b.length + ps.length
  | [], b => Nat.le_refl _
  | p :: ps, b => by
    have h := accB_len ps (bput b p.1 (bget b p.1 + p.2))
    have h2 := bput_len (x := p.1) (v := bget b p.1 + p.2) (b := b)
    show (accB (bput b p.1 (bget b p.1 + p.2)) ps).length ≤ _
    simp only [List.length_cons]
    omega
theorem accB_mem {y : Str} : ∀ (ps : List Pr) (b : Bk), y ∈ (accB b ps).map (·.1) → y ∈ b.map (·.1) ∨ y ∈ ps.map (·.1)
  | [], b, h => .inl h
  | p :: ps, b, h => by
    rcases accB_mem ps _ h with q | q
    · rcases bput_mem.mp q with q | q
      · exact .inl q
      · exact .inr (by rw [q]; exact List.mem_cons_self)
    · exact .inr (List.mem_cons_of_mem _ q)
/-! the sorted list of pairs -/
def lePr (a b : Pr) : Bool := sleD (encPr a) (encPr b)
theorem sort_prs (l : List Pr) : (l.map encPr).mergeSort sleD = (l.mergeSort lePr).map encPr := (List.map_mergeSort fun a _ b _ => (show lePr a b = sleD (encPr a) (encPr b) from rfl)).symm
theorem sortOk_prs (l : List Pr) : sortOk (l.map encPr) = true := by
  have h := map_fit (f := encPr) (n := 1) (l := l) fun x _ => pr_fit x
  unfold sortOk
  simp only [h.1, Bool.and_eq_true, decide_eq_true_eq, Bool.or_eq_true, true_and]
  refine ⟨?_, .inl ?_, by omega⟩
  · rw [List.all_eq_true]
    intro d hd
    rw [List.all_eq_true]
    intro e he
    obtain ⟨x, _, rfl⟩ := List.mem_map.mp hd
    obtain ⟨y, _, rfl⟩ := List.mem_map.mp he
    rfl
  · rw [List.all_eq_true]
    intro d hd
    obtain ⟨x, _, rfl⟩ := List.mem_map.mp hd
    rfl
theorem sorted_prs (l : List Pr) : sortedD [.lst (l.map encPr)] = some (.own (.lst ((l.mergeSort lePr).map encPr))) := by
  rw [sortedD_lst _ (sortOk_prs l), sort_prs]
def sumOf (n : Int) (ps : List Pr) : Sm := (n, ((accB [] ps).filter fun p => !(p.2 == 0)).mergeSort lePr)
theorem sumOf_lin (f : Str → Int) (n : Int) (ps : List Pr) : lin f (sumOf n ps).2 = lin f ps := by
  show lin f (((accB [] ps).filter fun p => !(p.2 == 0)).mergeSort lePr) = _
  rw [lin_perm f (List.mergeSort_perm _ _), lin_filter, accB_lin, lin_nil]
  omega
theorem sumOf_nd (n : Int) (ps : List Pr) : ((sumOf n ps).2.map (·.1)).Nodup := by
  show ((((accB [] ps).filter fun p => !(p.2 == 0)).mergeSort lePr).map (·.1)).Nodup
  rw [((List.mergeSort_perm _ _).map _).nodup_iff]
  exact (List.filter_sublist.map _).nodup (accB_nd ps [] List.nodup_nil)
theorem sumOf_mem (n : Int) (ps : List Pr) : ∀ p ∈ (sumOf n ps).2, p.1 ∈ ps.map (·.1) := fun p hp => by
  have h := List.mem_mergeSort.mp hp
  have h := List.mem_map_of_mem (f := (·.1)) (List.mem_filter.mp h).1
  rcases accB_mem ps [] h with q | q
  · cases q
  · exact q
theorem sumOf_sb {ks : List Str} {N : Int} (n : Int) (ps : List Pr) (hk : ∀ p ∈ ps, p.1 ∈ ks) (hN : ∀ x, -N ≤ lin (ind x) ps ∧ lin (ind x) ps ≤ N) : SB ks N (sumOf n ps).2 := by
  refine ⟨sumOf_nd n ps, fun p hp => ?_, fun p hp => ?_⟩
  · obtain ⟨q, hq, e⟩ := List.mem_map.mp (sumOf_mem n ps p hp)
    rw [← e]
    exact hk q hq
  · have := ind_in (sumOf_nd n ps) (show (p.1, p.2) ∈ (sumOf n ps).2 from hp)
    rw [← this, sumOf_lin]
    exact hN p.1
theorem sval_lin (b : Bk) (s : Sm) : sval b s = s.1 + lin (bget b) s.2 := rfl
def plusS (a c : Sm) : Sm := sumOf (a.1 + c.1) (a.2 ++ c.2)
def byS (a : Sm) (t : Int) : Sm := sumOf (a.1 * t) (a.2.map fun p => (p.1, p.2 * t))
def told (sets : List (Str × Sm)) (x : Str) : Sm := (toldBy sets x).getD (0, [(x, 1)])
def putS (one : Sm) (sets : List (Str × Sm)) : Sm := one.2.foldl (fun f p => plusS f (byS (told sets p.1) p.2)) (one.1, [])
theorem plus_val (b : Bk) (a c : Sm) : sval b (plusS a c) = sval b a + sval b c := by
  rw [sval_lin, sval_lin, sval_lin]
  show (a.1 + c.1) + lin (bget b) (sumOf (a.1 + c.1) (a.2 ++ c.2)).2 = _
  rw [sumOf_lin, lin_append]
  omega
theorem by_val (b : Bk) (a : Sm) (t : Int) : sval b (byS a t) = sval b a * t := by
  rw [sval_lin, sval_lin]
  show a.1 * t + lin (bget b) (sumOf (a.1 * t) (a.2.map fun p => (p.1, p.2 * t))).2 = _
  rw [sumOf_lin, lin_mul, Int.add_mul]
theorem puts_val (b b' : Bk) (sets : List (Str × Sm)) : ∀ (ps : List Pr) (f : Sm), (∀ p ∈ ps, bget b' p.1 = sval b (told sets p.1)) → sval b (ps.foldl (fun f p => plusS f (byS (told sets p.1) p.2)) f) = sval b f + lin (bget b') ps
  | [], f, _ => by rw [lin_nil]; simp
  | p :: ps, f, h => by
    rw [List.foldl_cons, puts_val b b' sets ps _ (fun q hq => h q (List.mem_cons_of_mem _ hq)), plus_val, by_val, lin_cons, h p List.mem_cons_self, Int.mul_comm p.2]
    omega
theorem put_val (b b' : Bk) (one : Sm) (sets : List (Str × Sm)) (h : ∀ p ∈ one.2, bget b' p.1 = sval b (told sets p.1)) : sval b (putS one sets) = sval b' one := by
  unfold putS
  rw [puts_val b b' sets one.2 _ h, sval_lin b', sval_lin, lin_nil]
  simp
/-! bounds -/
structure SmB (ks : List Str) (N : Int) (s : Sm) : Prop where
  n : -N ≤ s.1 ∧ s.1 ≤ N
  ps : SB ks N s.2
theorem mul_bd {a b A B : Int} (h1 : -A ≤ a ∧ a ≤ A) (h2 : -B ≤ b ∧ b ≤ B) : -(A * B) ≤ a * b ∧ a * b ≤ A * B := by
  have hA : 0 ≤ A := by omega
  have hB : 0 ≤ B := by omega
  have k : (a * b).natAbs ≤ (A * B).natAbs := by
    rw [Int.natAbs_mul, Int.natAbs_mul]
    exact Nat.mul_le_mul (by omega) (by omega)
  have := Int.mul_nonneg hA hB
  omega
theorem by_bd {ks : List Str} {N T t : Int} {a : Sm} (h : SmB ks N a) (ht : -T ≤ t ∧ t ≤ T) : SmB ks (N * T) (byS a t) := by
  have h0 : 0 ≤ N := by have := h.n; omega
  refine ⟨mul_bd h.n ht, sumOf_sb _ _ (fun p hp => ?_) fun x => ?_⟩
  · obtain ⟨q, hq, rfl⟩ := List.mem_map.mp hp
    exact h.ps.ks q hq
  · rw [lin_mul]
    exact mul_bd (h.ps.ind h0 x) ht
theorem plus_bd {ks : List Str} {N M : Int} {a c : Sm} (h : SmB ks N a) (h' : SmB ks M c) : SmB ks (N + M) (plusS a c) := by
  have h0 : 0 ≤ N := by have := h.n; omega
  have h1 : 0 ≤ M := by have := h'.n; omega
  refine ⟨?_, sumOf_sb _ _ (fun p hp => ?_) fun x => ?_⟩
  · have := h.n
    have := h'.n
    show -(N + M) ≤ a.1 + c.1 ∧ a.1 + c.1 ≤ N + M
    omega
  · exact (List.mem_append.mp hp).elim (h.ps.ks p) (h'.ps.ks p)
  · rw [lin_append]
    have := h.ps.ind h0 x
    have := h'.ps.ind h1 x
    omega
theorem SmB.mono {ks : List Str} {N M : Int} {s : Sm} (h : SmB ks N s) (hm : N ≤ M) : SmB ks M s := ⟨by have := h.n; omega, ⟨h.ps.nd, h.ps.ks, fun p hp => by have := h.ps.lo p hp; omega⟩⟩
theorem told_bd {ks : List Str} {N : Int} {sets : List (Str × Sm)} {x : Str} (hs : ∀ q ∈ sets, SmB ks N q.2) (hN : 1 ≤ N) (hx : x ∈ ks) : SmB ks N (told sets x) := by
  unfold told
  cases e : toldBy sets x with
  | some s => exact hs (x, s) (toldBy_some e)
  | none =>
    refine ⟨⟨by show -N ≤ 0; omega, by show 0 ≤ N; omega⟩, ⟨by simp, fun p hp => ?_, fun p hp => ?_⟩⟩
    · rw [List.mem_singleton.mp hp]; exact hx
    · rw [List.mem_singleton.mp hp]
      exact ⟨by dsimp only; omega, by dsimp only; omega⟩
theorem puts_bd {ks : List Str} {N T : Int} {sets : List (Str × Sm)} (hs : ∀ q ∈ sets, SmB ks N q.2) (hN : 1 ≤ N) (hT : 0 ≤ T) : ∀ (ps : List Pr) (f : Sm) (M : Int), (∀ p ∈ ps, p.1 ∈ ks ∧ -T ≤ p.2 ∧ p.2 ≤ T) → SmB ks M f → SmB ks (M + ps.length * (N * T)) (ps.foldl (fun f p => plusS f (byS (told sets p.1) p.2)) f)
  | [], f, M, _, hf => by simpa using hf
  | p :: ps, f, M, h, hf => by
    obtain ⟨h1, h2⟩ := h p List.mem_cons_self
    have q := puts_bd hs hN hT ps _ _ (fun z hz => h z (List.mem_cons_of_mem _ hz)) (plus_bd hf (by_bd (told_bd hs hN h1) h2))
    rw [List.foldl_cons]
    refine q.mono ?_
    rw [List.length_cons, Int.natCast_add, Int.add_mul]
    simp only [Int.natCast_one, Int.one_mul]
    omega
/-! as data -/
def encSb (sets : List (Str × Sm)) : D := .dic false (sets.map fun p => (DK.str p.1, encSm p.2))
theorem pairs_map {Y : Type} (e : Y → D) : ∀ l : List (Str × Y), pairsD (l.map fun p => .tup [.str p.1, e p.2]) = some (l.map fun p => ((Sum.inr p.1 : Key), e p.2))
  | [] => rfl
  | p :: l => by
    show ((atomD (.str p.1)).bind fun κ => (pairsD (l.map fun p => .tup [.str p.1, e p.2])).map fun z => (κ, e p.2) :: z) = _
    rw [pairs_map e l]
    rfl
theorem merge_map {Y : Type} (e : Y → D) : ∀ (l : List (Str × Y)) (acc : List (DK × D)), (l.map (·.1)).Nodup → (∀ p ∈ l, DK.str p.1 ∉ acc.map (·.1)) → mergeD acc (l.map fun p => ((Sum.inr p.1 : Key), e p.2)) = acc ++ l.map fun p => (DK.str p.1, e p.2)
  | [], acc, _, _ => by simp [mergeD]
  | p :: l, acc, nd, h => by
    obtain ⟨n1, n2⟩ := List.nodup_cons.mp nd
    show mergeD (putD acc (DK.str p.1) (e p.2)) (l.map fun p => ((Sum.inr p.1 : Key), e p.2)) = _
    rw [put_new (h p List.mem_cons_self), merge_map e l _ n2 fun q hq => ?_]
    · simp
    · rw [List.map_append, List.mem_append]
      rintro (m | m)
      · exact h q (List.mem_cons_of_mem _ hq) m
      · have e : DK.str q.1 = DK.str p.1 := by simpa using m
        have e := DK.str.inj e
        exact n1 (by show p.1 ∈ _; rw [← e]; exact List.mem_map_of_mem hq)
theorem dict_map {Y : Type} (e : Y → D) {l : List (Str × Y)} (nd : (l.map (·.1)).Nodup) : dictD [.lst (l.map fun p => .tup [.str p.1, e p.2])] = some (.own (.dic false (l.map fun p => (DK.str p.1, e p.2)))) := by
  rw [dict_lst, pairs_map]
  show some (RV.own (.dic false (mergeD [] _))) = _
  rw [merge_map e l [] nd fun _ _ h => by cases h]
  rfl
theorem dict_sets {sets : List (Str × Sm)} (nd : (sets.map (·.1)).Nodup) : dictD [.lst (sets.map encSet)] = some (.own (encSb sets)) := dict_map encSm nd
theorem dict_prs {b : List Pr} (nd : (b.map (·.1)).Nodup) : dictD [.lst (b.map encPr)] = some (.own (encBk b)) := dict_map D.int nd
theorem look_sb (x : Str) : ∀ sets : List (Str × Sm), lookD (sets.map fun p => (DK.str p.1, encSm p.2)) (.str x) = (toldBy sets x).map encSm
  | [] => rfl
  | (j, s) :: r => by
    rw [List.map_cons, lookD, toldBy]
    by_cases e : j = x
    · subst e
      rw [if_pos rfl, if_pos rfl]
      rfl
    · rw [if_neg (fun q => e (by cases q; rfl)), if_neg e, look_sb x r]
theorem get_sb (sets : List (Str × Sm)) (x : Str) : getG (encSb sets) [.str x, .tup [.int 0, .tup [.tup [.str x, .int 1]]]] = some (encSm (told sets x)) := by
  unfold encSb
  rw [get_dicK, look_sb]
  unfold told
  cases toldBy sets x <;> rfl
theorem look_bk0 (x : Str) : ∀ b : Bk, ((lookD (b.map fun p => (DK.str p.1, D.int p.2)) (.str x)).getD (.int 0)) = .int (bget b x)
  | [] => rfl
  | (j, v) :: b => by
    rw [List.map_cons, lookD, bget]
    by_cases e : j = x
    · subst e
      rw [if_pos rfl, if_pos rfl]
      rfl
    · rw [if_neg (fun q => e (by cases q; rfl)), if_neg e, look_bk0 x b]
theorem get_bk0 (b : Bk) (x : Str) : getG (encBk b) [.str x, .int 0] = some (.int (bget b x)) := by
  unfold encBk
  rw [get_dicK, look_bk0]
theorem set_bput {b : Bk} {x : Str} {v : Int} (hl : b.length < 1000000) : setG (encBk b) (.str x) (.int v) = some (encBk (bput b x v)) := by
  unfold encBk
  rw [set_dicK, if_pos (by simpa using hl), put_bput]
theorem items_bk (b : Bk) : itemsI (encBk b) = some (b.map encPr) := by
  unfold encBk
  show some ((b.map fun p => (DK.str p.1, D.int p.2)).map fun p => D.tup [p.1.toD, p.2]) = _
  rw [List.map_map]
  rfl
/-! what a remark asks ahead of a step -/
mutual
def Rem.bhd (h : Str) (sets : List (Str × Sm)) (to : Int) : Rem → Rem
  | .most s => .most (putS s sets)
  | .rest s m => .rest (putS s sets) m
  | .at a p => if a = h then (if p = to then .and [] else .or []) else .at a p
  | .and rs => .and (bhds h sets to rs)
  | .or rs => .or (bhds h sets to rs)
  | .not r => .not (r.bhd h sets to)
def bhds (h : Str) (sets : List (Str × Sm)) (to : Int) : List Rem → List Rem
  | [] => []
  | r :: rs => r.bhd h sets to :: bhds h sets to rs
end
theorem bhds_map (h : Str) (sets : List (Str × Sm)) (to : Int) : ∀ rs : List Rem, bhds h sets to rs = rs.map (Rem.bhd h sets to)
  | [] => by rw [bhds]; rfl
  | r :: rs => by rw [bhds, bhds_map h sets to rs]; rfl
section
variable {h : Str} {sets : List (Str × Sm)} {to : Int}
mutual
theorem bhd_deep : ∀ r : Rem, (r.bhd h sets to).deep ≤ r.deep
  | .most s => by rw [Rem.bhd, Rem.deep, Rem.deep]; exact Nat.le_refl _
  | .rest s m => by rw [Rem.bhd, Rem.deep, Rem.deep]; exact Nat.le_refl _
  | .at a p => by
    rw [Rem.bhd]
    split
    · split <;> simp [Rem.deep, deeps]
    · exact Nat.le_refl _
  | .and rs => by have := bhds_deep rs; rw [Rem.bhd, Rem.deep, Rem.deep]; omega
  | .or rs => by have := bhds_deep rs; rw [Rem.bhd, Rem.deep, Rem.deep]; omega
  | .not r => by have := bhd_deep r; rw [Rem.bhd, Rem.deep, Rem.deep]; omega
theorem bhds_deep : ∀ rs : List Rem, deeps (bhds h sets to rs) ≤ deeps rs
  | [] => by rw [bhds]; exact Nat.le_refl _
  | r :: rs => by have := bhd_deep r; have := bhds_deep rs; rw [bhds, deeps, deeps]; omega
end
variable {P Q : Sm → Prop} {hs : List Str}
mutual
theorem bhd_ok (hq : ∀ s, P s → Q (putS s sets)) : ∀ r : Rem, r.ok P hs → (r.bhd h sets to).ok Q hs
  | .most s, o => by rw [Rem.ok] at o; rw [Rem.bhd, Rem.ok]; exact hq s o
  | .rest s m, o => by rw [Rem.ok] at o; rw [Rem.bhd, Rem.ok]; exact ⟨hq s o.1, o.2⟩
  | .at a p, o => by
    rw [Rem.ok] at o
    rw [Rem.bhd]
    split
    · split <;> (rw [Rem.ok, oks]; exact ⟨by simp, trivial⟩)
    · rw [Rem.ok]; exact o
  | .and rs, o => by rw [Rem.ok] at o; rw [Rem.bhd, Rem.ok]; exact ⟨by rw [bhds_map, List.length_map]; exact o.1, bhds_ok hq rs o.2⟩
  | .or rs, o => by rw [Rem.ok] at o; rw [Rem.bhd, Rem.ok]; exact ⟨by rw [bhds_map, List.length_map]; exact o.1, bhds_ok hq rs o.2⟩
  | .not r, o => by rw [Rem.ok] at o; rw [Rem.bhd, Rem.ok]; exact bhd_ok hq r o
theorem bhds_ok (hq : ∀ s, P s → Q (putS s sets)) : ∀ rs : List Rem, oks P hs rs → oks Q hs (bhds h sets to rs)
  | [], o => by rw [bhds, oks]; trivial
  | r :: rs, o => by rw [oks] at o; rw [bhds, oks]; exact ⟨bhd_ok hq r o.1, bhds_ok hq rs o.2⟩
end
mutual
theorem bhd_ats : ∀ r : Rem, h ∉ (r.bhd h sets to).ats
  | .most s => by rw [Rem.bhd, Rem.ats]; simp
  | .rest s m => by rw [Rem.bhd, Rem.ats]; simp
  | .at a p => by
    rw [Rem.bhd]
    split
    · split <;> (rw [Rem.ats, atss]; simp)
    · rename_i e
      rw [Rem.ats]
      simpa using fun q => e q.symm
  | .and rs => by rw [Rem.bhd, Rem.ats]; exact bhds_ats rs
  | .or rs => by rw [Rem.bhd, Rem.ats]; exact bhds_ats rs
  | .not r => by rw [Rem.bhd, Rem.ats]; exact bhd_ats r
theorem bhds_ats : ∀ rs : List Rem, h ∉ atss (bhds h sets to rs)
  | [] => by rw [bhds, atss]; simp
  | r :: rs => by
    rw [bhds, atss, List.mem_append]
    rintro (m | m)
    · exact bhd_ats r m
    · exact bhds_ats rs m
end
/-- the same truth as behind the step -/
structure Behind (ks hs : List Str) (h : Str) (sets : List (Str × Sm)) (to : Int) (b pl b' pl' : Bk) : Prop where
  box : ∀ x ∈ ks, bget b' x = sval b (told sets x)
  here : bget pl' h = to
  other : ∀ a ∈ hs, a ≠ h → bget pl' a = bget pl a
variable {ks : List Str} {b pl b' pl' : Bk}
mutual
theorem bhd_holds (B : Behind ks hs h sets to b pl b' pl') (hk : ∀ s, P s → ∀ q ∈ s.2, q.1 ∈ ks) : ∀ r : Rem, r.ok P hs → (r.bhd h sets to).holds b pl = r.holds b' pl'
  | .most s, o => by
    rw [Rem.ok] at o
    rw [Rem.bhd, Rem.holds, Rem.holds, put_val b b' s sets fun q hq => B.box q.1 (hk s o q hq)]
  | .rest s m, o => by
    rw [Rem.ok] at o
    rw [Rem.bhd, Rem.holds, Rem.holds, put_val b b' s sets fun q hq => B.box q.1 (hk s o.1 q hq)]
  | .at a p, o => by
    rw [Rem.ok] at o
    rw [Rem.bhd]
    split
    · rename_i e
      subst e
      rw [Rem.holds, B.here]
      split
      · rename_i e
        rw [Rem.holds, hAll, e]
        simp
      · rename_i e
        rw [Rem.holds, hAny]
        simpa using fun q => e q.symm
    · rename_i e
      rw [Rem.holds, Rem.holds, B.other a o.1 e]
  | .and rs, o => by rw [Rem.ok] at o; rw [Rem.bhd, Rem.holds, Rem.holds, (bhds_holds B hk rs o.2).1]
  | .or rs, o => by rw [Rem.ok] at o; rw [Rem.bhd, Rem.holds, Rem.holds, (bhds_holds B hk rs o.2).2]
  | .not r, o => by rw [Rem.ok] at o; rw [Rem.bhd, Rem.holds, Rem.holds, bhd_holds B hk r o]
theorem bhds_holds (B : Behind ks hs h sets to b pl b' pl') (hk : ∀ s, P s → ∀ q ∈ s.2, q.1 ∈ ks) : ∀ rs : List Rem, oks P hs rs → hAll b pl (bhds h sets to rs) = hAll b' pl' rs ∧ hAny b pl (bhds h sets to rs) = hAny b' pl' rs
  | [], o => by rw [bhds, hAll, hAll, hAny, hAny]; exact ⟨rfl, rfl⟩
  | r :: rs, o => by
    rw [oks] at o
    have a := bhd_holds B hk r o.1
    have c := bhds_holds B hk rs o.2
    rw [bhds, hAll, hAll, hAny, hAny, a, c.1, c.2]
    exact ⟨rfl, rfl⟩
end
end
end Cal

end
section
set_option maxRecDepth 100000
set_option autoImplicit false
/-! Forms: remarks without nots and ats, the hands' places as boxes. -/
namespace Cal
open PySem L2 Dt
def pbox (h : Str) : Str := ("@" : Str) ++ h
def minusS (a c : Sm) : Sm := plusS a (byS c (-1))
def noMore (a c : Sm) : Rem := .most (minusS a c)
def bothW (a c : Sm) : Rem := .and [noMore a c, noMore c a]
def nextS (a : Sm) : Sm := (a.1 + 1, a.2)
def placeS (h : Str) : Sm := sumOf 0 [(pbox h, 1)]
def restOff (s : Sm) (m : Int) : Rem := .or ((List.range' 1 (m - 1).toNat).map fun k : Nat => .rest (minusS s ((k : Int), [])) m)
mutual
def Rem.plain : Rem → Rem
  | .most s => .most s
  | .rest s m => .rest s m
  | .at h p => bothW (placeS h) (p, [])
  | .and rs => .and (plains rs)
  | .or rs => .or (plains rs)
  | .not r => r.against
def plains : List Rem → List Rem
  | [] => []
  | r :: rs => r.plain :: plains rs
def Rem.against : Rem → Rem
  | .most s => noMore (1, []) s
  | .rest s m => restOff s m
  | .at h p => .or [noMore (nextS (placeS h)) (p, []), noMore (nextS (p, [])) (placeS h)]
  | .and rs => .or (againsts rs)
  | .or rs => .and (againsts rs)
  | .not r => r.plain
def againsts : List Rem → List Rem
  | [] => []
  | r :: rs => r.against :: againsts rs
end
theorem plains_map : ∀ rs : List Rem, plains rs = rs.map Rem.plain
  | [] => by rw [plains]; rfl
  | r :: rs => by rw [plains, plains_map rs]; rfl
theorem againsts_map : ∀ rs : List Rem, againsts rs = rs.map Rem.against
  | [] => by rw [againsts]; rfl
  | r :: rs => by rw [againsts, againsts_map rs]; rfl
/-! what a form keeps to -/
mutual
def Rem.fok (P : Sm → Prop) : Rem → Prop
  | .most s => P s
  | .rest s m => P s ∧ 2 ≤ m ∧ m ≤ 12
  | .at _ _ => False
  | .and rs => foks P rs
  | .or rs => foks P rs
  | .not _ => False
def foks (P : Sm → Prop) : List Rem → Prop
  | [] => True
  | r :: rs => r.fok P ∧ foks P rs
end
theorem foks_iff {P : Sm → Prop} : ∀ {rs : List Rem}, foks P rs ↔ ∀ r ∈ rs, r.fok P
  | [] => by unfold foks; simp
  | r :: rs => by unfold foks; rw [foks_iff (rs := rs)]; simp
mutual
theorem fok_imp {P Q : Sm → Prop} (h : ∀ s, P s → Q s) : ∀ r : Rem, r.fok P → r.fok Q
  | .most s, o => by rw [Rem.fok] at o ⊢; exact h s o
  | .rest s m, o => by rw [Rem.fok] at o ⊢; exact ⟨h s o.1, o.2⟩
  | .at _ _, o => by rw [Rem.fok] at o; exact o.elim
  | .not _, o => by rw [Rem.fok] at o; exact o.elim
  | .and rs, o => by rw [Rem.fok] at o ⊢; exact foks_imp h rs o
  | .or rs, o => by rw [Rem.fok] at o ⊢; exact foks_imp h rs o
theorem foks_imp {P Q : Sm → Prop} (h : ∀ s, P s → Q s) : ∀ rs : List Rem, foks P rs → foks Q rs
  | [], _ => by rw [foks]; trivial
  | r :: rs, o => by rw [foks] at o ⊢; exact ⟨fok_imp h r o.1, foks_imp h rs o.2⟩
end
/-! sums less one another -/
theorem sumOf_len (n : Int) (ps : List Pr) : (sumOf n ps).2.length ≤ ps.length := by
  unfold sumOf
  dsimp only
  rw [List.length_mergeSort]
  refine Nat.le_trans (List.length_filter_le _ _) ?_
  have := accB_len ps []
  simpa using this
theorem byS_len (a : Sm) (t : Int) : (byS a t).2.length ≤ a.2.length := by
  have := sumOf_len (a.1 * t) (a.2.map fun p => (p.1, p.2 * t))
  rw [List.length_map] at this
  exact this
theorem plusS_len (a c : Sm) : (plusS a c).2.length ≤ a.2.length + c.2.length := by
  have := sumOf_len (a.1 + c.1) (a.2 ++ c.2)
  rw [List.length_append] at this
  exact this
theorem minusS_len (a c : Sm) : (minusS a c).2.length ≤ a.2.length + c.2.length := by
  have h1 := plusS_len a (byS c (-1))
  have h2 := byS_len c (-1)
  unfold minusS
  omega
theorem minus_val (b : Bk) (a c : Sm) : sval b (minusS a c) = sval b a - sval b c := by
  unfold minusS
  rw [plus_val, by_val]
  omega
theorem minus_bd {ks : List Str} {N M : Int} {a c : Sm} (h : SmB ks N a) (h' : SmB ks M c) : SmB ks (N + M) (minusS a c) := by
  have := by_bd (T := 1) (t := -1) h' (by omega)
  rw [Int.mul_one] at this
  exact plus_bd h this
theorem num_bd {ks : List Str} {N n : Int} (h : -N ≤ n ∧ n ≤ N) : SmB ks N (n, []) :=
  ⟨h, ⟨by simp, fun p hp => (by cases hp), fun p hp => (by cases hp)⟩⟩
theorem next_bd {ks : List Str} {N : Int} {a : Sm} (h : SmB ks N a) : SmB ks (N + 1) (nextS a) := by
  refine ⟨?_, h.ps.nd, h.ps.ks, fun p hp => ?_⟩
  · have := h.n
    unfold nextS
    dsimp only
    omega
  · have := h.ps.lo p hp
    omega
theorem placeS_eq (h : Str) : placeS h = (0, [(pbox h, 1)]) := by
  unfold placeS sumOf
  simp [accB, bput, bget]
theorem place_bd {ks : List Str} {N : Int} {h : Str} (hk : pbox h ∈ ks) (hN : 1 ≤ N) : SmB ks N (placeS h) := by
  rw [placeS_eq]
  refine ⟨by dsimp only; omega, by simp, fun p hp => ?_, fun p hp => ?_⟩
  · rw [List.mem_singleton.mp hp]; exact hk
  · rw [List.mem_singleton.mp hp]; dsimp only; omega
theorem place_val (b : Bk) (h : Str) : sval b (placeS h) = bget b (pbox h) := by
  rw [placeS_eq]
  simp [sval]
theorem num_val (b : Bk) (n : Int) : sval b (n, []) = n := by simp [sval]
theorem next_val (b : Bk) (a : Sm) : sval b (nextS a) = sval b a + 1 := by
  unfold nextS sval
  dsimp only
  omega
theorem smb_len {ks : List Str} {N : Int} {s : Sm} (h : SmB ks N s) : s.2.length ≤ ks.length := h.ps.len
theorem smb_sml {ks : List Str} {N : Int} (hN : N < 2 ^ 149) {s : Sm} (h : SmB ks N s) : Sml s.1 ∧ ∀ p ∈ s.2, Sml p.2 := by
  refine ⟨?_, fun p hp => ?_⟩
  · have := h.n; unfold Sml; omega
  · have := h.ps.lo p hp; unfold Sml; omega
theorem smb_in {ks : List Str} {N : Int} (hN : N < 2 ^ 149) {s : Sm} (h : SmB ks N s) : SmIn ks s :=
  fun p hp => ⟨h.ps.ks p hp, (smb_sml hN h).2 p hp⟩
section
variable {ks hs : List Str} {N : Int}
theorem noMore_fok {M : Int} {a c : Sm} (h : SmB ks N a) (h' : SmB ks M c) : (noMore a c).fok (SmB ks (N + M)) := by
  unfold noMore
  rw [Rem.fok]
  exact minus_bd h h'
theorem fok_mono {N M : Int} {r : Rem} (h : r.fok (SmB ks N)) (hm : N ≤ M) : r.fok (SmB ks M) := fok_imp (fun _ o => o.mono hm) r h
theorem restOff_fok {s : Sm} {m : Int} (h : SmB ks N s) (h2 : 2 ≤ m) (h3 : m ≤ 12) : (restOff s m).fok (SmB ks (N + 12)) := by
  unfold restOff
  rw [Rem.fok, foks_iff]
  intro r hr
  obtain ⟨k, hk, rfl⟩ := List.mem_map.mp hr
  rw [List.mem_range'_1] at hk
  rw [Rem.fok]
  exact ⟨minus_bd h (num_bd (by omega)), h2, h3⟩
mutual
theorem plain_fok (hN : 1 ≤ N) (hp : ∀ h ∈ hs, pbox h ∈ ks) : ∀ r : Rem, r.ok (SmB ks N) hs → r.plain.fok (SmB ks (N + 1001))
  | .most s, o => by rw [Rem.ok] at o; rw [Rem.plain, Rem.fok]; exact o.mono (by omega)
  | .rest s m, o => by rw [Rem.ok] at o; rw [Rem.plain, Rem.fok]; exact ⟨o.1.mono (by omega), o.2⟩
  | .at h p, o => by
    rw [Rem.ok] at o
    rw [Rem.plain, bothW, Rem.fok, foks_iff]
    have a := place_bd (N := N) (hp h o.1) hN
    have b : SmB ks 1000 (p, []) := num_bd (by omega)
    intro r hr
    simp only [List.mem_cons, List.not_mem_nil, or_false] at hr
    rcases hr with rfl | rfl
    · exact fok_mono (noMore_fok a b) (by omega)
    · exact fok_mono (noMore_fok b a) (by omega)
  | .and rs, o => by rw [Rem.ok] at o; rw [Rem.plain, Rem.fok]; exact plains_fok hN hp rs o.2
  | .or rs, o => by rw [Rem.ok] at o; rw [Rem.plain, Rem.fok]; exact plains_fok hN hp rs o.2
  | .not r, o => by rw [Rem.ok] at o; rw [Rem.plain]; exact against_fok hN hp r o
theorem plains_fok (hN : 1 ≤ N) (hp : ∀ h ∈ hs, pbox h ∈ ks) : ∀ rs : List Rem, oks (SmB ks N) hs rs → foks (SmB ks (N + 1001)) (plains rs)
  | [], _ => by rw [plains, foks]; trivial
  | r :: rs, o => by rw [oks] at o; rw [plains, foks]; exact ⟨plain_fok hN hp r o.1, plains_fok hN hp rs o.2⟩
theorem against_fok (hN : 1 ≤ N) (hp : ∀ h ∈ hs, pbox h ∈ ks) : ∀ r : Rem, r.ok (SmB ks N) hs → r.against.fok (SmB ks (N + 1001))
  | .most s, o => by
    rw [Rem.ok] at o
    rw [Rem.against]
    exact fok_mono (noMore_fok (N := 1) (num_bd (by omega)) o) (by omega)
  | .rest s m, o => by
    rw [Rem.ok] at o
    rw [Rem.against]
    exact fok_mono (restOff_fok o.1 o.2.1 o.2.2) (by omega)
  | .at h p, o => by
    rw [Rem.ok] at o
    rw [Rem.against, Rem.fok, foks_iff]
    have a := place_bd (N := N) (hp h o.1) hN
    have b : SmB ks 999 (p, []) := num_bd (by omega)
    intro r hr
    simp only [List.mem_cons, List.not_mem_nil, or_false] at hr
    rcases hr with rfl | rfl
    · exact fok_mono (noMore_fok (next_bd a) b) (by omega)
    · exact fok_mono (noMore_fok (next_bd b) a) (by omega)
  | .and rs, o => by rw [Rem.ok] at o; rw [Rem.against, Rem.fok]; exact againsts_fok hN hp rs o.2
  | .or rs, o => by rw [Rem.ok] at o; rw [Rem.against, Rem.fok]; exact againsts_fok hN hp rs o.2
  | .not r, o => by rw [Rem.ok] at o; rw [Rem.against]; exact plain_fok hN hp r o
theorem againsts_fok (hN : 1 ≤ N) (hp : ∀ h ∈ hs, pbox h ∈ ks) : ∀ rs : List Rem, oks (SmB ks N) hs rs → foks (SmB ks (N + 1001)) (againsts rs)
  | [], _ => by rw [againsts, foks]; trivial
  | r :: rs, o => by rw [oks] at o; rw [againsts, foks]; exact ⟨against_fok hN hp r o.1, againsts_fok hN hp rs o.2⟩
end
end
/-! depth -/
mutual
theorem plain_deep : ∀ r : Rem, r.plain.deep ≤ r.deep + 1
  | .most s => by rw [Rem.plain]; omega
  | .rest s m => by rw [Rem.plain]; omega
  | .at h p => by rw [Rem.plain, bothW]; simp [Rem.deep, deeps, noMore]
  | .and rs => by rw [Rem.plain, Rem.deep, Rem.deep]; have := plains_deep rs; omega
  | .or rs => by rw [Rem.plain, Rem.deep, Rem.deep]; have := plains_deep rs; omega
  | .not r => by rw [Rem.plain, Rem.deep]; have := against_deep r; omega
theorem plains_deep : ∀ rs : List Rem, deeps (plains rs) ≤ deeps rs + 1
  | [] => by rw [plains]; omega
  | r :: rs => by rw [plains, deeps, deeps]; have := plain_deep r; have := plains_deep rs; omega
theorem against_deep : ∀ r : Rem, r.against.deep ≤ r.deep + 1
  | .most s => by rw [Rem.against]; simp [Rem.deep, noMore]
  | .rest s m => by
    rw [Rem.against, restOff, Rem.deep, Rem.deep]
    have : deeps ((List.range' 1 (m - 1).toNat).map fun k : Nat => Rem.rest (minusS s ((k : Int), [])) m) ≤ 1 := deeps_le fun r hr => by
      obtain ⟨k, _, rfl⟩ := List.mem_map.mp hr
      rw [Rem.deep]
      exact Nat.le_refl _
    omega
  | .at h p => by rw [Rem.against]; simp [Rem.deep, deeps, noMore]
  | .and rs => by rw [Rem.against, Rem.deep, Rem.deep]; have := againsts_deep rs; omega
  | .or rs => by rw [Rem.against, Rem.deep, Rem.deep]; have := againsts_deep rs; omega
  | .not r => by rw [Rem.against, Rem.deep]; have := plain_deep r; omega
theorem againsts_deep : ∀ rs : List Rem, deeps (againsts rs) ≤ deeps rs + 1
  | [] => by rw [againsts]; omega
  | r :: rs => by rw [againsts, deeps, deeps]; have := against_deep r; have := againsts_deep rs; omega
end
/-! what forms mean -/
theorem noMore_holds (b pl : Bk) (a c : Sm) : (noMore a c).holds b pl = decide (sval b a ≤ sval b c) := by
  unfold noMore
  rw [Rem.holds, minus_val]
  exact decide_eq_decide.mpr (by omega)
theorem restOff_holds (b pl : Bk) (s : Sm) (m : Int) (h : 2 ≤ m) : (restOff s m).holds b pl = !(sval b s % m == 0) := by
  unfold restOff
  rw [Rem.holds, hAny_eq, List.map_map]
  have e : (Rem.holds b pl ∘ fun k : Nat => Rem.rest (minusS s ((k : Int), [])) m) = fun k : Nat => (sval b s - (k : Int)) % m == 0 := by
    funext k
    show (Rem.rest (minusS s ((k : Int), [])) m).holds b pl = _
    rw [Rem.holds, minus_val, num_val]
  rw [e, List.any_map]
  have n1 := Int.emod_nonneg (sval b s) (show m ≠ 0 by omega)
  have n2 := Int.emod_lt_of_pos (sval b s) (show 0 < m by omega)
  by_cases z : sval b s % m = 0
  · rw [z]
    rw [List.any_eq_false.mpr]
    · rfl
    · intro k hk
      rw [List.mem_range'_1] at hk
      simp only [Function.comp, id, beq_iff_eq]
      intro q
      have := Int.emod_emod_of_dvd (sval b s) (Int.dvd_refl m)
      have q2 : (sval b s - (k : Int)) % m = (sval b s % m - (k : Int) % m) % m := Int.sub_emod _ _ _
      rw [z, Int.emod_eq_of_lt (show 0 ≤ (k : Int) by omega) (by omega), q] at q2
      have q3 : (0 - (k : Int)) % m = m - k := by
        rw [show (0 - (k : Int)) = (m - k) - m by omega, Int.sub_emod_right]
        exact Int.emod_eq_of_lt (by omega) (by omega)
      omega
  · have z' : (sval b s % m == 0) = false := by simpa using z
    rw [z']
    rw [List.any_eq_true.mpr]
    · rfl
    · refine ⟨(sval b s % m).toNat, ?_, ?_⟩
      · rw [List.mem_range'_1]; omega
      · simp only [Function.comp, id, beq_iff_eq]
        rw [Int.toNat_of_nonneg n1]
        have := Int.emod_add_mul_ediv (sval b s) m
        rw [show sval b s - sval b s % m = m * (sval b s / m) by omega]
        exact Int.mul_emod_right _ _
section
variable {P : Sm → Prop} {hs : List Str} {b pl pl' : Bk}
mutual
theorem plain_holds (S : ∀ h ∈ hs, bget b (pbox h) = bget pl h) : ∀ r : Rem, r.ok P hs → r.plain.holds b pl' = r.holds b pl
  | .most s, o => by rw [Rem.plain, Rem.holds, Rem.holds]
  | .rest s m, o => by rw [Rem.plain, Rem.holds, Rem.holds]
  | .at h p, o => by
    rw [Rem.ok] at o
    rw [Rem.plain, bothW]
    simp only [Rem.holds, hAll_eq, List.map_cons, List.map_nil, noMore_holds, place_val, num_val, S h o.1, List.all_cons, List.all_nil, id, Bool.and_true]
    by_cases e : bget pl h = p
    · simp [e]
    · have : (bget pl h == p) = false := by simpa using e
      rw [this]
      by_cases c : bget pl h ≤ p
      · simp [c]; omega
      · simp [c]
  | .and rs, o => by rw [Rem.ok] at o; rw [Rem.plain, Rem.holds, Rem.holds]; exact (plains_holds S rs o.2).1
  | .or rs, o => by rw [Rem.ok] at o; rw [Rem.plain, Rem.holds, Rem.holds]; exact (plains_holds S rs o.2).2
  | .not r, o => by rw [Rem.ok] at o; rw [Rem.plain, Rem.holds]; exact against_holds S r o
theorem plains_holds (S : ∀ h ∈ hs, bget b (pbox h) = bget pl h) : ∀ rs : List Rem, oks P hs rs → hAll b pl' (plains rs) = hAll b pl rs ∧ hAny b pl' (plains rs) = hAny b pl rs
  | [], _ => by rw [plains, hAll, hAll, hAny, hAny]; exact ⟨rfl, rfl⟩
  | r :: rs, o => by
    rw [oks] at o
    rw [plains, hAll, hAll, hAny, hAny, plain_holds S r o.1, (plains_holds S rs o.2).1, (plains_holds S rs o.2).2]
    exact ⟨rfl, rfl⟩
theorem against_holds (S : ∀ h ∈ hs, bget b (pbox h) = bget pl h) : ∀ r : Rem, r.ok P hs → r.against.holds b pl' = !r.holds b pl
  | .most s, o => by
    rw [Rem.against, noMore_holds, Rem.holds, num_val]
    by_cases e : sval b s ≤ 0
    · simp [e]; omega
    · simp [e]; omega
  | .rest s m, o => by
    rw [Rem.ok] at o
    rw [Rem.against, restOff_holds b pl' s m o.2.1, Rem.holds]
  | .at h p, o => by
    rw [Rem.ok] at o
    rw [Rem.against]
    simp only [Rem.holds, hAny_eq, List.map_cons, List.map_nil, noMore_holds, next_val, place_val, num_val, S h o.1, List.any_cons, List.any_nil, id, Bool.or_false]
    by_cases e : bget pl h = p
    · simp [e]; omega
    · have : (bget pl h == p) = false := by simpa using e
      rw [this]
      by_cases c : bget pl h + 1 ≤ p
      · simp [c]
      · simp [c]; omega
  | .and rs, o => by rw [Rem.ok] at o; rw [Rem.against, Rem.holds, Rem.holds]; exact (againsts_holds S rs o.2).2
  | .or rs, o => by rw [Rem.ok] at o; rw [Rem.against, Rem.holds, Rem.holds]; exact (againsts_holds S rs o.2).1
  | .not r, o => by
    rw [Rem.ok] at o
    rw [Rem.against, Rem.holds, plain_holds S r o, Bool.not_not]
theorem againsts_holds (S : ∀ h ∈ hs, bget b (pbox h) = bget pl h) : ∀ rs : List Rem, oks P hs rs → hAll b pl' (againsts rs) = !hAny b pl rs ∧ hAny b pl' (againsts rs) = !hAll b pl rs
  | [], _ => by rw [againsts, hAll, hAll, hAny, hAny]; exact ⟨rfl, rfl⟩
  | r :: rs, o => by
    rw [oks] at o
    rw [againsts, hAll, hAll, hAny, hAny, against_holds S r o.1, (againsts_holds S rs o.2).1, (againsts_holds S rs o.2).2, Bool.not_or, Bool.not_and]
    exact ⟨rfl, rfl⟩
end
end
end Cal

end
section
set_option maxRecDepth 100000
set_option autoImplicit false
/-! Annotations, duties, their forms. -/
namespace Cal
open PySem L2 Dt
instance : Inhabited Rem := ⟨.and []⟩
instance : Inhabited Bx := ⟨⟨"", 0, 0, 0, ""⟩⟩
abbrev An := List ((Str × Int) × Rem)
def encAn (l : An) : D := .dic true (l.map fun q => (DK.tup [.str q.1.1, .int q.1.2], encR q.2))
def aget : An → Str → Int → Rem
  | [], _, _ => .and []
  | q :: l, x, k => if q.1 = (x, k) then q.2 else aget l x k
theorem key_inj {a b : Str × Int} (e : DK.tup [.str a.1, .int a.2] = DK.tup [.str b.1, .int b.2]) : a = b := by
  obtain ⟨a1, a2⟩ := a
  obtain ⟨b1, b2⟩ := b
  injection e with e
  injection e with e1 e
  injection e with e2 _
  injection e1 with e1
  injection e2 with e2
  exact Prod.ext e1 e2
theorem look_an {x : Str} {k : Int} : ∀ {l : An}, (x, k) ∈ l.map (·.1) → lookD (l.map fun q => (DK.tup [.str q.1.1, .int q.1.2], encR q.2)) (.tup [.str x, .int k]) = some (encR (aget l x k))
  | [], h => by cases h
  | q :: l, h => by
    rw [List.map_cons, lookD, aget]
    by_cases e : q.1 = (x, k)
    · rw [if_pos (by rw [e]), if_pos e]
    · rw [if_neg (fun z => e (key_inj (b := (x, k)) z)), if_neg e]
      rw [List.map_cons, List.mem_cons] at h
      exact look_an (h.resolve_left (fun z => e z.symm))
theorem item_an {l : An} {x : Str} {k : Int} (h : (x, k) ∈ l.map (·.1)) : itemD (encAn l) (.tup [.str x, .int k]) = some (encR (aget l x k)) := look_an h
theorem aget_mem {x : Str} {k : Int} : ∀ {l : An}, (x, k) ∈ l.map (·.1) → ((x, k), aget l x k) ∈ l
  | [], h => by cases h
  | q :: l, h => by
    rw [aget]
    by_cases e : q.1 = (x, k)
    · rw [if_pos e, ← e]; exact List.mem_cons_self
    · rw [if_neg e]
      rw [List.map_cons, List.mem_cons] at h
      exact List.mem_cons_of_mem _ (aget_mem (h.resolve_left (fun z => e z.symm)))
theorem put_an {x : Str} {k : Int} {r : Rem} : ∀ {l : An}, (x, k) ∉ l.map (·.1) → putD (l.map fun q => (DK.tup [.str q.1.1, .int q.1.2], encR q.2)) (.tup [.str x, .int k]) (encR r) = (l ++ [((x, k), r)]).map fun q => (DK.tup [.str q.1.1, .int q.1.2], encR q.2)
  | [], _ => rfl
  | q :: l, h => by
    rw [List.map_cons, putD]
    rw [List.map_cons, List.mem_cons, not_or] at h
    rw [if_neg (fun z => h.1 (key_inj (b := (x, k)) z).symm), put_an h.2]
    rfl
theorem set_an {l : An} {x : Str} {k : Int} {r : Rem} (h : (x, k) ∉ l.map (·.1)) (hl : l.length < 1000000) : setG (encAn l) (.tup [.str x, .int k]) (encR r) = some (encAn (l ++ [((x, k), r)])) := by
  unfold encAn
  rw [← put_an h]
  show (if (l.map _).length < 1000000 then _ else none) = _
  rw [if_pos (by rw [List.length_map]; exact hl)]
  rfl
/-- the places of all hands -/
def slots (hs : List (Str × Int)) : List (Str × Int) := (hs.map fun h => (List.range h.2.toNat).map fun k : Nat => (h.1, (k : Int))).flatten
theorem mem_slots {hs : List (Str × Int)} {x : Str} {k : Int} : (x, k) ∈ slots hs ↔ ∃ h ∈ hs, h.1 = x ∧ 0 ≤ k ∧ k < h.2 := by
  unfold slots
  simp only [List.mem_flatten, List.mem_map, List.mem_range]
  constructor
  · rintro ⟨l, ⟨h, hh, rfl⟩, hm⟩
    obtain ⟨j, hj, e⟩ := List.mem_map.mp hm
    injection e with e1 e2
    rw [List.mem_range] at hj
    exact ⟨h, hh, e1, by omega, by omega⟩
  · rintro ⟨h, hh, rfl, h0, h1⟩
    exact ⟨_, ⟨h, hh, rfl⟩, List.mem_map.mpr ⟨k.toNat, List.mem_range.mpr (by omega), by rw [Int.toNat_of_nonneg h0]⟩⟩
theorem slots_snoc (hs : List (Str × Int)) (h : Str × Int) : slots (hs ++ [h]) = slots hs ++ (List.range h.2.toNat).map fun k : Nat => (h.1, (k : Int)) := by
  unfold slots
  simp
/-- the stretch of a box -/
def bxOf : List Bx → Str → Bx
  | [], _ => default
  | b :: bs, x => if b.name = x then b else bxOf bs x
theorem bxOf_mem {x : Str} : ∀ {bs : List Bx}, x ∈ bs.map (·.name) → bxOf bs x ∈ bs ∧ (bxOf bs x).name = x
  | [], h => by cases h
  | b :: bs, h => by
    rw [bxOf]
    by_cases e : b.name = x
    · rw [if_pos e]; exact ⟨List.mem_cons_self, e⟩
    · rw [if_neg e]
      rw [List.map_cons, List.mem_cons] at h
      obtain ⟨a, c⟩ := bxOf_mem (h.resolve_left (fun z => e z.symm))
      exact ⟨List.mem_cons_of_mem _ a, c⟩
def encStr (bs : List Bx) : D := .dic false (bs.map fun b => (DK.str b.name, D.tup [.int b.low, .int b.high]))
theorem look_str {x : Str} : ∀ {bs : List Bx}, x ∈ bs.map (·.name) → lookD (bs.map fun b => (DK.str b.name, D.tup [.int b.low, .int b.high])) (.str x) = some (.tup [.int (bxOf bs x).low, .int (bxOf bs x).high])
  | [], h => by cases h
  | b :: bs, h => by
    rw [List.map_cons, lookD, bxOf]
    by_cases e : b.name = x
    · rw [if_pos (by rw [e]), if_pos e]
    · rw [if_neg (fun z => e (by injection z)), if_neg e]
      rw [List.map_cons, List.mem_cons] at h
      exact look_str (h.resolve_left (fun z => e z.symm))
theorem item_str {bs : List Bx} {x : Str} (h : x ∈ bs.map (·.name)) : itemD (encStr bs) (.str x) = some (.tup [.int (bxOf bs x).low, .int (bxOf bs x).high]) := look_str h
theorem put_str {b : Bx} : ∀ {bs : List Bx}, b.name ∉ bs.map (·.name) → putD (bs.map fun b => (DK.str b.name, D.tup [.int b.low, .int b.high])) (.str b.name) (.tup [.int b.low, .int b.high]) = (bs ++ [b]).map fun b => (DK.str b.name, D.tup [.int b.low, .int b.high])
  | [], _ => rfl
  | c :: bs, h => by
    rw [List.map_cons, putD]
    rw [List.map_cons, List.mem_cons, not_or] at h
    rw [if_neg (fun z => h.1 (by injection z with z; exact z.symm)), put_str h.2]
    rfl
theorem set_str {bs : List Bx} {b : Bx} (h : b.name ∉ bs.map (·.name)) (hl : bs.length < 1000000) : setG (encStr bs) (.str b.name) (.tup [.int b.low, .int b.high]) = some (encStr (bs ++ [b])) := by
  unfold encStr
  rw [← put_str h]
  show (if (bs.map _).length < 1000000 then _ else none) = _
  rw [if_pos (by rw [List.length_map]; exact hl)]
  rfl
/-! duties -/
inductive Duty where
  | start (h : Str) | own (k : Nat) | other (k : Nat) (h : Str) (q : Nat)
def encDu : Duty → D
  | .start h => .tup [.str "start", .str h]
  | .own k => .tup [.str "own", .int (k : Int)]
  | .other k h q => .tup [.str "other", .int (k : Int), .str h, .int (q : Int)]
def othersOf (hs : List (Str × Int)) (k : Nat) (s : Stp) : List Duty := (hs.map fun h => if h.1 = s.hand then [] else (List.range h.2.toNat).map fun q => Duty.other k h.1 q).flatten
def dutiesOf (p : Prg) : List Duty := (p.hands.map fun h => Duty.start h.1) ++ (List.range p.steps.length).map Duty.own ++ ((p.steps.zipIdx 0).map fun s => othersOf p.hands s.2 s.1).flatten
def withinF (bs : List Bx) (sets : List (Str × Sm)) : List Rem := sets.map fun q => .and [noMore ((bxOf bs q.1).low, []) q.2, noMore q.2 ((bxOf bs q.1).high, [])]
def startF (p : Prg) (l : An) (h : Str) : List Rem := (p.boxes.map fun b => bothW (sumOf 0 [(b.name, 1)]) (b.start, [])) ++ (p.hands.map fun h => bothW (placeS h.1) (0, [])) ++ [(aget l h 0).against]
def lastF (l : An) (s : Stp) : Option (Str × Nat) → Rem
  | none => aget l s.hand s.there
  | some (h, q) => aget l h q
def stepF (p : Prg) (l : An) (s : Stp) (o : Option (Str × Nat)) : List Rem :=
  ((Rem.at s.hand s.here).plain :: (match o with | none => [] | some (h, q) => [(Rem.at h q).plain])) ++ ((aget l s.hand s.here).plain :: (match o with | none => [] | some (h, q) => [(aget l h q).plain])) ++ [s.guard.plain] ++ withinF p.boxes s.sets ++ [((lastF l s o).bhd s.hand s.sets s.there).against]
def dutyF (p : Prg) (l : An) : Duty → List Rem
  | .start h => startF p l h
  | .own k => stepF p l (p.steps.getD k default) none
  | .other k h q => stepF p l (p.steps.getD k default) (some (h, q))
def Prg.bks (p : Prg) : List Str := p.boxes.map (·.name)
def Prg.keys (p : Prg) : List Str := p.bks ++ p.hands.map fun h => pbox h.1
/-- what the walks of duties ask -/
structure Duo (p : Prg) (l : An) (N : Int) : Prop where
  N1 : 1 ≤ N
  N2 : N ≤ 1000000000000
  bnd : p.bks.Nodup
  blen : p.boxes.length ≤ 50
  hlen : p.hands.length ≤ 10
  slen : p.steps.length ≤ 100
  places : ∀ h ∈ p.hands, h.1.length ≤ 1000 ∧ 1 ≤ h.2 ∧ h.2 ≤ 30
  bx : ∀ b ∈ p.boxes, Sml b.low ∧ Sml b.high ∧ Sml b.start
  lk : l.map (·.1) = slots p.hands
  lr : ∀ q ∈ l, q.2.ok (SmB p.bks N) (p.hands.map (·.1)) ∧ q.2.deep ≤ 20
  hand : ∀ s ∈ p.steps, (s.hand, s.here) ∈ slots p.hands ∧ (s.hand, s.there) ∈ slots p.hands
  guard : ∀ s ∈ p.steps, s.guard.ok (SmB p.bks N) (p.hands.map (·.1)) ∧ s.guard.deep ≤ 20
  snd : ∀ s ∈ p.steps, (s.sets.map (·.1)).Nodup
  sl : ∀ s ∈ p.steps, s.sets.length ≤ 100
  sets : ∀ s ∈ p.steps, ∀ q ∈ s.sets, q.1 ∈ p.bks ∧ SmB p.bks N q.2
theorem SB.up {ks ks' : List Str} {N : Int} {s : List Pr} (h : SB ks N s) (hk : ∀ x ∈ ks, x ∈ ks') : SB ks' N s := ⟨h.nd, fun q hq => hk _ (h.ks q hq), h.lo⟩
theorem SmB.up {ks ks' : List Str} {N : Int} {s : Sm} (h : SmB ks N s) (hk : ∀ x ∈ ks, x ∈ ks') : SmB ks' N s := ⟨h.n, h.ps.up hk⟩
section
variable {p : Prg} {l : An} {N : Int}
theorem keys_l {p : Prg} : ∀ x ∈ p.bks, x ∈ p.keys := fun x hx => List.mem_append.mpr (.inl hx)
theorem Duo.rem (g : Duo p l N) {h : Str} {k : Int} (hm : (h, k) ∈ slots p.hands) : (aget l h k).ok (SmB p.bks N) (p.hands.map (·.1)) ∧ (aget l h k).deep ≤ 20 :=
  g.lr _ (aget_mem (by rw [g.lk]; exact hm))
theorem Duo.item (g : Duo p l N) {h : Str} {k : Int} (hm : (h, k) ∈ slots p.hands) : itemD (encAn l) (.tup [.str h, .int k]) = some (encR (aget l h k)) := item_an (by rw [g.lk]; exact hm)
theorem slot_hand {hs : List (Str × Int)} {h : Str} {k : Int} (hm : (h, k) ∈ slots hs) : h ∈ hs.map (·.1) := by
  obtain ⟨x, hx, e, _⟩ := mem_slots.mp hm
  rw [← e]
  exact List.mem_map_of_mem hx
theorem Duo.at_ok (g : Duo p l N) {h : Str} {k : Int} (hm : (h, k) ∈ slots p.hands) : (Rem.at h k).ok (SmB p.bks N) (p.hands.map (·.1)) := by
  rw [Rem.ok]
  refine ⟨slot_hand hm, ?_⟩
  obtain ⟨x, hx, e, h0, h1⟩ := mem_slots.mp hm
  have := g.places x hx
  omega
theorem Duo.bl (g : Duo p l N) : p.bks.length ≤ 50 := by unfold Prg.bks; rw [List.length_map]; exact g.blen
theorem Duo.kl (g : Duo p l N) : p.keys.length ≤ 100 := by
  have := g.bl
  have := g.hlen
  unfold Prg.keys
  rw [List.length_append, List.length_map]
  omega
/-- what a put into a sum keeps within -/
theorem put_smb {ks : List Str} {sets : List (Str × Sm)} (hs : ∀ q ∈ sets, SmB ks N q.2) (hN : 1 ≤ N) (hk : ks.length ≤ 120) {s : Sm} (h : SmB ks N s) : SmB ks (N + 120 * (N * N)) (putS s sets) := by
  have := puts_bd (T := N) hs hN (by omega) s.2 (s.1, []) N (fun p hp => ⟨h.ps.ks p hp, h.ps.lo p hp⟩) (num_bd h.n)
  refine this.mono ?_
  have l := h.ps.len
  have nn : 0 ≤ N * N := Int.mul_nonneg (by omega) (by omega)
  have : (s.2.length : Int) * (N * N) ≤ 120 * (N * N) := Int.mul_le_mul_of_nonneg_right (by omega) nn
  omega
theorem Duo.nn (g : Duo p l N) : 0 ≤ N * N ∧ N * N ≤ 1000000000000000000000000 := by
  have h1 := g.N1
  have h2 := g.N2
  refine ⟨Int.mul_nonneg (by omega) (by omega), ?_⟩
  exact Int.mul_le_mul h2 h2 (by omega) (by omega)
theorem Duo.behind_ok (g : Duo p l N) {r : Rem} (h : r.ok (SmB p.bks N) (p.hands.map (·.1))) {s : Stp} (hs : s ∈ p.steps) : (r.bhd s.hand s.sets s.there).ok (SmB p.bks (N + 120 * (N * N))) (p.hands.map (·.1)) :=
  bhd_ok (fun s' h' => put_smb (fun q hq => (g.sets s hs q hq).2) g.N1 (by have := g.bl; omega) h') r h
/-! what the forms of a duty keep to -/
theorem Duo.ph (g : Duo p l N) : ∀ h ∈ p.hands.map (·.1), pbox h ∈ p.keys := fun h hh => by
  obtain ⟨x, hx, rfl⟩ := List.mem_map.mp hh
  exact List.mem_append.mpr (.inr (List.mem_map.mpr ⟨x, hx, rfl⟩))
theorem rem_plain (g : Duo p l N) {M : Int} (hM : 1 ≤ M) {r : Rem} (h : r.ok (SmB p.bks M) (p.hands.map (·.1))) : r.plain.fok (SmB p.keys (M + 1001)) :=
  plain_fok hM g.ph r (ok_imp (fun _ o => o.up keys_l) (fun _ o => o) r h)
theorem rem_against (g : Duo p l N) {M : Int} (hM : 1 ≤ M) {r : Rem} (h : r.ok (SmB p.bks M) (p.hands.map (·.1))) : r.against.fok (SmB p.keys (M + 1001)) :=
  against_fok hM g.ph r (ok_imp (fun _ o => o.up keys_l) (fun _ o => o) r h)
abbrev FmOk (p : Prg) (r : Rem) : Prop := r.fok (SmIn p.keys) ∧ r.deep ≤ 22
theorem minus_num {ks : List Str} {N : Int} (hN : N < 2 ^ 149) (n : Int) {c : Sm} (h : SmB ks N c) : SmIn ks (minusS (n, []) c) ∧ SmIn ks (minusS c (n, [])) := by
  have e1 : (minusS (n, []) c).2 = (minusS (0, []) c).2 := rfl
  have e2 : (minusS c (n, [])).2 = (minusS c (0, [])).2 := rfl
  have h0 : 0 ≤ N := by have := h.n; omega
  have a : SmB ks (0 + N) (minusS (0, []) c) := minus_bd (num_bd (by omega)) h
  have b : SmB ks (N + 0) (minusS c (0, [])) := minus_bd h (num_bd (by omega))
  exact ⟨fun q hq => smb_in (by omega) a q (by rw [← e1]; exact hq), fun q hq => smb_in (by omega) b q (by rw [← e2]; exact hq)⟩
theorem lastF_ok (g : Duo p l N) {s : Stp} (hs : s ∈ p.steps) {o : Option (Str × Nat)} (ho : ∀ h q, o = some (h, q) → (h, (q : Int)) ∈ slots p.hands) : (lastF l s o).ok (SmB p.bks N) (p.hands.map (·.1)) ∧ (lastF l s o).deep ≤ 20 := by
  cases o with
  | none => exact g.rem (g.hand s hs).2
  | some x => exact g.rem (ho x.1 x.2 rfl)
theorem stepF_ok (g : Duo p l N) {s : Stp} (hs : s ∈ p.steps) {o : Option (Str × Nat)} (ho : ∀ h q, o = some (h, q) → (h, (q : Int)) ∈ slots p.hands) : ∀ r ∈ stepF p l s o, FmOk p r := by
  have N1 := g.N1
  have N2 := g.N2
  have up : ∀ {M : Int} {r : Rem}, r.fok (SmB p.keys M) → M ≤ 2 ^ 148 → r.fok (SmIn p.keys) := fun h hm => fok_imp (fun _ o => smb_in (by omega) o) _ h
  have pl : ∀ {r : Rem}, r.ok (SmB p.bks N) (p.hands.map (·.1)) ∧ r.deep ≤ 20 → FmOk p r.plain := fun {r} h => ⟨up (rem_plain g N1 h.1) (by omega), by have := plain_deep r; omega⟩
  have at1 : ∀ {h : Str} {k : Int}, (h, k) ∈ slots p.hands → FmOk p (Rem.at h k).plain := fun hm => pl ⟨g.at_ok hm, by rw [Rem.deep]; omega⟩
  have ls := lastF_ok g hs ho
  intro r hr
  unfold stepF at hr
  simp only [List.mem_append, List.mem_cons, List.not_mem_nil, or_false] at hr
  rcases hr with ((((rfl | hr) | (rfl | hr)) | rfl) | hr) | rfl
  · exact at1 (g.hand s hs).1
  · cases o with
    | none => cases hr
    | some x => rw [List.mem_singleton.mp hr]; exact at1 (ho x.1 x.2 rfl)
  · exact pl (g.rem (g.hand s hs).1)
  · cases o with
    | none => cases hr
    | some x => rw [List.mem_singleton.mp hr]; exact pl (g.rem (ho x.1 x.2 rfl))
  · exact pl (g.guard s hs)
  · unfold withinF at hr
    obtain ⟨q, hq, rfl⟩ := List.mem_map.mp hr
    obtain ⟨q1, q2⟩ := g.sets s hs q hq
    have c := q2.up keys_l
    refine ⟨?_, by simp [Rem.deep, deeps, noMore]⟩
    rw [Rem.fok, foks_iff]
    intro r hr
    simp only [List.mem_cons, List.not_mem_nil, or_false] at hr
    rcases hr with rfl | rfl
    · unfold noMore; rw [Rem.fok]; exact (minus_num (by omega) _ c).1
    · unfold noMore; rw [Rem.fok]; exact (minus_num (by omega) _ c).2
  · have nn := g.nn
    have b := g.behind_ok ls.1 hs
    exact ⟨up (rem_against g (by omega) b) (by omega), by
      have h1 := against_deep ((lastF l s o).bhd s.hand s.sets s.there)
      have h2 := bhd_deep (h := s.hand) (sets := s.sets) (to := s.there) (lastF l s o)
      omega⟩
/-! what they mean -/
def insideB (bs : List Bx) (b : Bk) (sets : List (Str × Sm)) : Bool := sets.all fun q => decide ((bxOf bs q.1).low ≤ sval b q.2) && decide (sval b q.2 ≤ (bxOf bs q.1).high)
def otherB (l : An) (b pl : Bk) : Option (Str × Nat) → Bool
  | none => true
  | some (h, q) => (bget pl h == (q : Int)) && (aget l h q).holds b pl
theorem stepF_means (g : Duo p l N) {s : Stp} (hs : s ∈ p.steps) {o : Option (Str × Nat)} (ho : ∀ h q, o = some (h, q) → (h, (q : Int)) ∈ slots p.hands) {b pl b' pl' : Bk} (S : ∀ h ∈ p.hands.map (·.1), bget b (pbox h) = bget pl h) (B : Behind p.bks (p.hands.map (·.1)) s.hand s.sets s.there b pl b' pl') :
    (stepF p l s o).all (fun r => r.holds b []) = ((bget pl s.hand == s.here) && (aget l s.hand s.here).holds b pl && otherB l b pl o && s.guard.holds b pl && insideB p.boxes b s.sets && !(lastF l s o).holds b' pl') := by
  have pl1 : ∀ {r : Rem}, r.ok (SmB p.bks N) (p.hands.map (·.1)) → r.plain.holds b [] = r.holds b pl := fun {r} h => plain_holds S r h
  have at1 : ∀ {h : Str} {k : Int}, (h, k) ∈ slots p.hands → (Rem.at h k).plain.holds b [] = (bget pl h == k) := fun hm => by rw [pl1 (g.at_ok hm), Rem.holds]
  have ls := lastF_ok g hs ho
  have lst : ((lastF l s o).bhd s.hand s.sets s.there).against.holds b [] = !(lastF l s o).holds b' pl' := by
    rw [against_holds S _ (g.behind_ok ls.1 hs), bhd_holds B (fun s' h' q hq => h'.ps.ks q hq) _ ls.1]
  have wi : (withinF p.boxes s.sets).all (fun r => r.holds b []) = insideB p.boxes b s.sets := by
    unfold withinF insideB
    rw [List.all_map]
    congr 1
    funext q
    simp only [Function.comp, Rem.holds, hAll, noMore_holds, num_val, Bool.and_true]
  unfold stepF
  cases o with
  | none =>
    simp only [List.all_append, List.all_cons, List.all_nil, Bool.and_true, at1 (g.hand s hs).1, pl1 (g.rem (g.hand s hs).1).1, pl1 (g.guard s hs).1, wi, lst, otherB, List.append_nil, Bool.and_assoc, Bool.true_and]
  | some x =>
    have hx := ho x.1 x.2 rfl
    simp only [List.all_append, List.all_cons, List.all_nil, Bool.and_true, at1 (g.hand s hs).1, pl1 (g.rem (g.hand s hs).1).1, pl1 (g.guard s hs).1, wi, lst, otherB, at1 hx, pl1 (g.rem hx).1]
    cases (bget pl s.hand == s.here) <;> cases (aget l s.hand s.here).holds b pl <;> cases (bget pl x.1 == (x.2 : Int)) <;> simp
theorem stepF_last (g : Duo p l N) {s : Stp} (hs : s ∈ p.steps) {o : Option (Str × Nat)} (ho : ∀ h q, o = some (h, q) → (h, (q : Int)) ∈ slots p.hands) {b pl b' pl' : Bk} (S : ∀ h ∈ p.hands.map (·.1), bget b (pbox h) = bget pl h) (B : Behind p.bks (p.hands.map (·.1)) s.hand s.sets s.there b pl b' pl') :
    ((lastF l s o).bhd s.hand s.sets s.there).against.holds b [] = !(lastF l s o).holds b' pl' := by
  have ls := lastF_ok g hs ho
  rw [against_holds S _ (g.behind_ok ls.1 hs), bhd_holds B (fun s' h' q hq => h'.ps.ks q hq) _ ls.1]
end
end Cal

end
section
set_option maxRecDepth 100000
set_option autoImplicit false
/-! The checker's reckoning, and that what it shows is so. -/
namespace Cal
open PySem L2 Dt
def isNum : D → Bool
  | .int _ => true
  | _ => false
def headIs (d : D) (w : Str) : Bool := match d with
  | .str x => x == w
  | _ => false
abbrev Ors := List (List Rem)
abbrev Laid := List Rem × Ors
mutual
def layR : Rem → Laid → Laid
  | .or rs, s => (s.1, s.2 ++ [rs])
  | .and rs, s => layRs rs s
  | .most a, s => (s.1 ++ [.most a], s.2)
  | .rest a m, s => (s.1 ++ [.rest a m], s.2)
  | .at h p, s => (s.1 ++ [.at h p], s.2)
  | .not r, s => (s.1 ++ [.not r], s.2)
def layRs : List Rem → Laid → Laid
  | [], s => s
  | r :: rs, s => layRs rs (layR r s)
end
theorem layRs_append (b : List Rem) : ∀ (a : List Rem) (s : Laid), layRs (a ++ b) s = layRs b (layRs a s)
  | [], s => by rw [layRs]; rfl
  | r :: a, s => by rw [List.cons_append, layRs, layRs, layRs_append b a]
theorem layRs_snoc (a : List Rem) (r : Rem) (s : Laid) : layRs (a ++ [r]) s = layR r (layRs a s) := by rw [layRs_append, layRs, layRs]
/-! how many a form lays in -/
mutual
def Rem.cnt : Rem → Nat
  | .and rs => cnts rs
  | _ => 1
def cnts : List Rem → Nat
  | [] => 0
  | r :: rs => r.cnt + cnts rs
end
mutual
theorem lay_cnt : ∀ (r : Rem) (s : Laid), (layR r s).1.length + (layR r s).2.length = s.1.length + s.2.length + r.cnt
  | .or rs, s => by rw [layR, Rem.cnt]; simp; omega; intro _ h; cases h
  | .and rs, s => by rw [layR, Rem.cnt]; exact lays_cnt rs s
  | .most a, s => by rw [layR, Rem.cnt]; simp; omega; intro _ h; cases h
  | .rest a m, s => by rw [layR, Rem.cnt]; simp; omega; intro _ h; cases h
  | .at h p, s => by rw [layR, Rem.cnt]; simp; omega; intro _ h; cases h
  | .not r, s => by rw [layR, Rem.cnt]; simp; omega; intro _ h; cases h
theorem lays_cnt : ∀ (rs : List Rem) (s : Laid), (layRs rs s).1.length + (layRs rs s).2.length = s.1.length + s.2.length + cnts rs
  | [], s => by rw [layRs, cnts]; omega
  | r :: rs, s => by rw [layRs, cnts, lays_cnt rs, lay_cnt r]; omega
end
/-- all that is laid in is true of a book -/
def Sat (b : Bk) (s : Laid) : Prop := (∀ r ∈ s.1, r.holds b [] = true) ∧ ∀ rs ∈ s.2, ∃ r ∈ rs, r.holds b [] = true
theorem sat_atom (b : Bk) (s : Laid) (r : Rem) : Sat b (s.1 ++ [r], s.2) ↔ Sat b s ∧ r.holds b [] = true := by
  unfold Sat
  simp only [List.mem_append, List.mem_singleton]
  constructor
  · rintro ⟨h1, h2⟩
    exact ⟨⟨fun q hq => h1 q (.inl hq), h2⟩, h1 r (.inr rfl)⟩
  · rintro ⟨⟨h1, h2⟩, h3⟩
    exact ⟨fun q hq => hq.elim (h1 q) (fun e => by rw [e]; exact h3), h2⟩
mutual
theorem lay_sat (b : Bk) : ∀ (r : Rem) (s : Laid), Sat b (layR r s) ↔ Sat b s ∧ r.holds b [] = true
  | .or rs, s => by
    rw [layR, Rem.holds, hAny_eq, List.any_map, List.any_eq_true]
    simp only [Function.comp, id]
    unfold Sat
    simp only [List.mem_append, List.mem_singleton]
    constructor
    · rintro ⟨h1, h2⟩
      exact ⟨⟨h1, fun q hq => h2 q (.inl hq)⟩, h2 rs (.inr rfl)⟩
    · rintro ⟨⟨h1, h2⟩, h3⟩
      exact ⟨h1, fun q hq => hq.elim (h2 q) (fun e => by rw [e]; exact h3)⟩
  | .and rs, s => by
    rw [layR, Rem.holds, hAll_eq, List.all_map, List.all_eq_true]
    exact lays_sat b rs s
  | .most a, s => by rw [layR]; exact sat_atom b s _
  | .rest a m, s => by rw [layR]; exact sat_atom b s _
  | .at h p, s => by rw [layR]; exact sat_atom b s _
  | .not r, s => by rw [layR]; exact sat_atom b s _
theorem lays_sat (b : Bk) : ∀ (rs : List Rem) (s : Laid), Sat b (layRs rs s) ↔ Sat b s ∧ ∀ r ∈ rs, r.holds b [] = true
  | [], s => by rw [layRs]; simp
  | r :: rs, s => by
    rw [layRs, lays_sat b rs, lay_sat b r]
    simp only [List.mem_cons, forall_eq_or_imp]
    exact and_assoc
end
/-! rows of papers -/
def atomAt (A : List Rem) (i : Int) : Option Rem := if 0 ≤ i ∧ i < A.length then A[i.toNat]? else none
theorem atomAt_mem {A : List Rem} {i : Int} {r : Rem} (h : atomAt A i = some r) : r ∈ A := by
  unfold atomAt at h
  split at h
  · exact List.mem_of_getElem? h
  · cases h
def mostAt (A : List Rem) (i : Int) : Option Sm := match atomAt A i with
  | some (.most s) => some s
  | _ => none
theorem mostAt_mem {A : List Rem} {i : Int} {s : Sm} (h : mostAt A i = some s) : Rem.most s ∈ A := by
  unfold mostAt at h
  split at h
  · cases h; exact atomAt_mem ‹_›
  · cases h
def restAt (A : List Rem) (i : Int) : Option (Sm × Int) := match atomAt A i with
  | some (.rest s m) => some (s, m)
  | _ => none
theorem restAt_mem {A : List Rem} {i : Int} {s : Sm} {m : Int} (h : restAt A i = some (s, m)) : Rem.rest s m ∈ A := by
  unfold restAt at h
  split at h
  · cases h; exact atomAt_mem ‹_›
  · cases h
def sumRow (A : List Rem) : D → Option (Sm × Int)
  | .tup [.int i, .int t] => if 1 ≤ t then (mostAt A i).map fun s => (s, t) else none
  | _ => none
def sumFold (A : List Rem) : List D → Sm → Option Sm
  | [], tot => some tot
  | r :: rs, tot => (sumRow A r).bind fun q => sumFold A rs (plusS tot (byS q.1 q.2))
def showsSum (A : List Rem) : D → Bool
  | .tup rs => match sumFold A rs (0, []) with
    | some tot => tot.2.isEmpty && decide (0 < tot.1)
    | none => false
  | _ => false
def restPart (A : List Rem) (d : Int) : D → Option Sm
  | .tup [.int i, .int t] => (restAt A i).bind fun q => if t * q.2 % d = 0 then some (byS q.1 t) else none
  | .tup [.int i, .int j, .int t] => (mostAt A i).bind fun s => (mostAt A j).bind fun u => if plusS s u = (0, []) then some (byS s t) else none
  | _ => none
def lastI : D → Int
  | .tup [_, .int t] => t
  | .tup [_, _, .int t] => t
  | _ => 0
def restFold (A : List Rem) (d : Int) : List D → Sm → Option Sm
  | [], tot => some tot
  | r :: rs, tot => (restPart A d r).bind fun q => if lastI r = 0 then none else restFold A d rs (plusS tot q)
def showsRest (A : List Rem) : D → D → Bool
  | .int d, .tup rs => if d < 2 then false else match restFold A d rs (0, []) with
    | some tot => !(tot.1 % d == 0) && tot.2.all fun p => p.2 % d == 0
    | none => false
  | _, _ => false
def belowF (x : Str) (k : Int) : Rem := .most (sumOf (-k) [(x, 1)])
def aboveF (x : Str) (k : Int) : Rem := .most (sumOf (k + 1) [(x, -1)])
def orM (rec : Laid → D → Bool) (s : Laid) (x y : D) : Bool := match x, y with
  | .int i, .tup ps => if 0 ≤ i ∧ i < s.2.length then decide ((s.2.getD i.toNat []).length = ps.length) && ((s.2.getD i.toNat []).zip ps).all fun q => rec (layR q.1 s) q.2 else false
  | _, _ => false
def cutM (ns : List Str) (rec : Laid → D → Bool) (s : Laid) (x k lo hi : D) : Bool := match x, k with
  | .str x, .int k => decide (x ∈ ns) && (rec (s.1 ++ [belowF x k], s.2) lo && rec (s.1 ++ [aboveF x k], s.2) hi)
  | _, _ => false
def stepM (ns : List Str) (rec : Laid → D → Bool) (s : Laid) (p : D) : Bool := match p with
  | .tup [h, r] => headIs h "sum" && showsSum s.1 r
  | .tup [h, x, y] => if headIs h "rest" = true then showsRest s.1 x y else headIs h "or" && orM rec s x y
  | .tup [h, x, k, lo, hi] => headIs h "cut" && cutM ns rec s x k lo hi
  | _ => false
def showsM (ns : List Str) : Nat → Laid → D → Bool
  | 0, _, _ => false
  | n + 1, s, p => stepM ns (showsM ns n) s p
/-! what is shown is so -/
theorem sum_sound {A : List Rem} {b : Bk} (h : ∀ r ∈ A, r.holds b [] = true) : ∀ (rs : List D) (tot out : Sm), sumFold A rs tot = some out → sval b tot ≤ 0 → sval b out ≤ 0
  | [], tot, out, e, ht => by rw [sumFold] at e; cases e; exact ht
  | r :: rs, tot, out, e, ht => by
    rw [sumFold] at e
    obtain ⟨⟨s, t⟩, e1, e2⟩ := Option.bind_eq_some_iff.mp e
    refine sum_sound h rs _ out e2 ?_
    rw [plus_val, by_val]
    unfold sumRow at e1
    split at e1
    · split at e1
      · rename_i i t' ht'
        obtain ⟨s', e3, e4⟩ := Option.map_eq_some_iff.mp e1
        cases e4
        have := h _ (mostAt_mem e3)
        rw [Rem.holds, decide_eq_true_eq] at this
        have : sval b s * t ≤ 0 := Int.mul_nonpos_of_nonpos_of_nonneg this (by omega)
        show sval b tot + sval b s * t ≤ 0
        omega
      · cases e1
    · cases e1
theorem sval_nil (b : Bk) {s : Sm} (h : s.2 = []) : sval b s = s.1 := by unfold sval; rw [h]; simp
theorem showsSum_sound {A : List Rem} {b : Bk} (h : ∀ r ∈ A, r.holds b [] = true) (d : D) : showsSum A d = false := by
  unfold showsSum
  split
  · split
    · rename_i tot e
      have := sum_sound h _ _ _ e (by rw [sval_nil b rfl]; exact Int.le_refl _)
      cases c : tot.2.isEmpty with
      | false => rfl
      | true =>
        rw [sval_nil b (List.isEmpty_iff.mp c)] at this
        simpa using this
    · rfl
  · rfl
theorem emod_mul_zero {a t m d : Int} (h1 : a % m = 0) (h2 : t * m % d = 0) : a * t % d = 0 := by
  obtain ⟨k, rfl⟩ := Int.dvd_of_emod_eq_zero h1
  rw [show m * k * t = (t * m) * k by rw [Int.mul_comm (m * k), Int.mul_assoc, ← Int.mul_assoc t]]
  exact Int.emod_eq_zero_of_dvd (Int.dvd_trans (Int.dvd_of_emod_eq_zero h2) (Int.dvd_mul_right _ _))
theorem rest_sound {A : List Rem} {b : Bk} {d : Int} (h : ∀ r ∈ A, r.holds b [] = true) : ∀ (rs : List D) (tot out : Sm), restFold A d rs tot = some out → sval b tot % d = 0 → sval b out % d = 0
  | [], tot, out, e, ht => by rw [restFold] at e; cases e; exact ht
  | r :: rs, tot, out, e, ht => by
    rw [restFold] at e
    obtain ⟨s, e1, e2⟩ := Option.bind_eq_some_iff.mp e
    split at e2
    · cases e2
    · refine rest_sound h rs _ out e2 ?_
      rw [plus_val]
      have key : sval b s % d = 0 := by
        unfold restPart at e1
        split at e1
        · obtain ⟨⟨q, m⟩, e3, e4⟩ := Option.bind_eq_some_iff.mp e1
          split at e4
          · rename_i c
            cases e4
            rw [by_val]
            have := h _ (restAt_mem e3)
            rw [Rem.holds, beq_iff_eq] at this
            exact emod_mul_zero this c
          · cases e4
        · obtain ⟨q, e3, e4⟩ := Option.bind_eq_some_iff.mp e1
          obtain ⟨u, e5, e6⟩ := Option.bind_eq_some_iff.mp e4
          split at e6
          · rename_i c
            cases e6
            have h1 := h _ (mostAt_mem e3)
            have h2 := h _ (mostAt_mem e5)
            rw [Rem.holds, decide_eq_true_eq] at h1 h2
            have h3 : sval b q + sval b u = 0 := by rw [← plus_val, c, sval_nil b rfl]
            rw [by_val, show sval b q = 0 by omega]
            simp
          · cases e6
        · cases e1
      have a1 := Int.dvd_of_emod_eq_zero ht
      have a2 := Int.dvd_of_emod_eq_zero key
      exact Int.emod_eq_zero_of_dvd (Int.dvd_add a1 a2)
theorem lin_mod {d : Int} (f : Str → Int) : ∀ ps : List Pr, (∀ p ∈ ps, p.2 % d = 0) → lin f ps % d = 0
  | [], _ => by rw [lin_nil]; simp
  | p :: ps, h => by
    rw [lin_cons]
    have a1 := Int.dvd_of_emod_eq_zero (h p List.mem_cons_self)
    have a2 := Int.dvd_of_emod_eq_zero (lin_mod f ps fun q hq => h q (List.mem_cons_of_mem _ hq))
    exact Int.emod_eq_zero_of_dvd (Int.dvd_add (Int.dvd_trans a1 (Int.dvd_mul_right _ _)) a2)
theorem showsRest_sound {A : List Rem} {b : Bk} (h : ∀ r ∈ A, r.holds b [] = true) (x y : D) : showsRest A x y = false := by
  unfold showsRest
  split
  · rename_i d rs
    split
    · rfl
    · split
      · rename_i tot e
        have := rest_sound h _ _ _ e (by rw [sval_nil b rfl]; simp)
        cases c : tot.2.all fun p => p.2 % d == 0 with
        | false => rw [Bool.and_false]
        | true =>
          rw [List.all_eq_true] at c
          have l := lin_mod (d := d) (bget b) tot.2 fun p hp => by simpa using c p hp
          rw [sval_lin] at this
          have a1 := Int.dvd_of_emod_eq_zero this
          have a2 := Int.dvd_of_emod_eq_zero l
          have a3 : tot.1 % d = 0 := by
            have := Int.dvd_sub a1 a2
            rw [Int.add_sub_cancel] at this
            exact Int.emod_eq_zero_of_dvd this
          rw [a3]; rfl
      · rfl
  · rfl
theorem below_holds (b : Bk) (x : Str) (k : Int) : (belowF x k).holds b [] = decide (bget b x ≤ k) := by
  unfold belowF
  rw [Rem.holds, sval_lin, sumOf_lin, lin_cons, lin_nil]
  show decide (-k + (1 * bget b x + 0) ≤ 0) = _
  exact decide_eq_decide.mpr (by omega)
theorem above_holds (b : Bk) (x : Str) (k : Int) : (aboveF x k).holds b [] = decide (k < bget b x) := by
  unfold aboveF
  rw [Rem.holds, sval_lin, sumOf_lin, lin_cons, lin_nil]
  show decide (k + 1 + (-1 * bget b x + 0) ≤ 0) = _
  exact decide_eq_decide.mpr (by omega)
theorem shows_sound (ns : List Str) (b : Bk) : ∀ (n : Nat) (s : Laid) (p : D), Sat b s → showsM ns n s p = false
  | 0, s, p, _ => by rw [showsM]
  | n + 1, s, p, h => by
    rw [showsM]
    unfold stepM
    split
    · rw [showsSum_sound h.1, Bool.and_false]
    · split
      · exact showsRest_sound h.1 _ _
      · unfold orM
        split
        · split
          · rename_i i ps hi
            cases c : decide ((s.2.getD i.toNat []).length = ps.length) with
            | false => rw [Bool.false_and, Bool.and_false]
            | true =>
              have ln := of_decide_eq_true c
              have mem : s.2.getD i.toNat [] ∈ s.2 := by
                rw [List.getD_eq_getElem?_getD, List.getElem?_eq_getElem (by omega)]
                exact List.getElem_mem _
              obtain ⟨r, hr, hh⟩ := h.2 _ mem
              obtain ⟨j, hj, e⟩ := List.getElem_of_mem hr
              have : ((s.2.getD i.toNat []).zip ps).all (fun q => showsM ns n (layR q.1 s) q.2) = false := by
                rw [← Bool.not_eq_true, List.all_eq_true]
                intro hall
                have hz : (r, ps[j]'(by omega)) ∈ (s.2.getD i.toNat []).zip ps := by
                  have := List.getElem_mem (l := (s.2.getD i.toNat []).zip ps) (n := j) (by rw [List.length_zip]; omega)
                  rw [List.getElem_zip, e] at this
                  exact this
                have := hall _ hz
                dsimp only at this
                rw [shows_sound ns b n _ _ ((lay_sat b r s).mpr ⟨h, hh⟩)] at this
                cases this
              rw [this, Bool.and_false, Bool.and_false]
          · rw [Bool.and_false]
        · rw [Bool.and_false]
    · unfold cutM
      split
      · rename_i x k
        by_cases c : bget b x ≤ k
        · rw [shows_sound ns b n (s.1 ++ [belowF x k], s.2) _ ((sat_atom b s _).mpr ⟨h, by rw [below_holds]; exact decide_eq_true c⟩), Bool.false_and, Bool.and_false, Bool.and_false]
        · rw [shows_sound ns b n (s.1 ++ [aboveF x k], s.2) _ ((sat_atom b s _).mpr ⟨h, by rw [above_holds]; exact decide_eq_true (by omega)⟩), Bool.and_false, Bool.and_false, Bool.and_false]
      · rw [Bool.and_false]
    · rfl
/-! rows -/
abbrev Rw := Str × Int × Int
def encRw (r : Rw) : D := .tup [.str r.1, .int r.2.1, .int r.2.2]
def lowF (r : Rw) : Rem := .most (sumOf r.2.1 [(r.1, -1)])
def highF (r : Rw) : Rem := .most (sumOf (-r.2.2) [(r.1, 1)])
def rowAtoms (rs : List Rw) : List Rem := (rs.map fun r => [lowF r, highF r]).flatten
def letBy (rs : List Rw) (fs : List Rem) (p : D) : Bool := showsM (rs.map (·.1)) 90 (layR (.and fs) (rowAtoms rs, [])) p
theorem low_holds (b : Bk) (r : Rw) : (lowF r).holds b [] = decide (r.2.1 ≤ bget b r.1) := by
  unfold lowF
  rw [Rem.holds, sval_lin, sumOf_lin, lin_cons, lin_nil]
  show decide (r.2.1 + (-1 * bget b r.1 + 0) ≤ 0) = _
  exact decide_eq_decide.mpr (by omega)
theorem high_holds (b : Bk) (r : Rw) : (highF r).holds b [] = decide (bget b r.1 ≤ r.2.2) := by
  unfold highF
  rw [Rem.holds, sval_lin, sumOf_lin, lin_cons, lin_nil]
  show decide (-r.2.2 + (1 * bget b r.1 + 0) ≤ 0) = _
  exact decide_eq_decide.mpr (by omega)
theorem letBy_sound {rs : List Rw} {fs : List Rem} {b : Bk} (h1 : ∀ r ∈ rs, r.2.1 ≤ bget b r.1 ∧ bget b r.1 ≤ r.2.2) (h2 : ∀ f ∈ fs, f.holds b [] = true) (p : D) : letBy rs fs p = false := by
  refine shows_sound _ b 90 _ p ?_
  rw [layR, lays_sat]
  refine ⟨⟨fun r hr => ?_, fun _ h => by cases h⟩, h2⟩
  unfold rowAtoms at hr
  obtain ⟨l, hl, hm⟩ := List.mem_flatten.mp hr
  obtain ⟨q, hq, rfl⟩ := List.mem_map.mp hl
  have := h1 q hq
  simp only [List.mem_cons, List.not_mem_nil, or_false] at hm
  rcases hm with rfl | rfl
  · rw [low_holds]; exact decide_eq_true this.1
  · rw [high_holds]; exact decide_eq_true this.2
/-! what is laid in keeps to what the forms keep to -/
mutual
def Rem.sz : Rem → Nat
  | .and rs => 1 + szs rs
  | .or rs => 1 + szs rs
  | .not r => 1 + r.sz
  | _ => 1
def szs : List Rem → Nat
  | [] => 0
  | r :: rs => r.sz + szs rs
end
theorem szs_mem {r : Rem} : ∀ {rs : List Rem}, r ∈ rs → r.sz ≤ szs rs
  | [], h => by cases h
  | q :: rs, h => by
    rw [szs]
    rcases List.mem_cons.mp h with rfl | h
    · omega
    · have := szs_mem h; omega
mutual
theorem deep_sz : ∀ r : Rem, r.deep ≤ r.sz
  | .most _ => by simp [Rem.deep, Rem.sz]
  | .rest _ _ => by simp [Rem.deep, Rem.sz]
  | .at _ _ => by simp [Rem.deep, Rem.sz]
  | .not r => by have := deep_sz r; rw [Rem.deep, Rem.sz]; omega
  | .and rs => by have := deeps_sz rs; rw [Rem.deep, Rem.sz]; omega
  | .or rs => by have := deeps_sz rs; rw [Rem.deep, Rem.sz]; omega
theorem deeps_sz : ∀ rs : List Rem, deeps rs ≤ szs rs
  | [] => by simp [deeps, szs]
  | r :: rs => by have := deep_sz r; have := deeps_sz rs; rw [deeps, szs]; omega
end
mutual
theorem cnt_sz : ∀ r : Rem, r.cnt ≤ r.sz
  | .most _ => by simp [Rem.cnt, Rem.sz]
  | .rest _ _ => by simp [Rem.cnt, Rem.sz]
  | .at _ _ => by simp [Rem.cnt, Rem.sz]
  | .not r => by simp [Rem.cnt, Rem.sz]
  | .and rs => by have := cnts_sz rs; rw [Rem.cnt, Rem.sz]; omega
  | .or rs => by simp [Rem.cnt, Rem.sz]
theorem cnts_sz : ∀ rs : List Rem, cnts rs ≤ szs rs
  | [] => by simp [cnts, szs]
  | r :: rs => by have := cnt_sz r; have := cnts_sz rs; rw [cnts, szs]; omega
end
section
variable {P : Sm → Prop}
mutual
theorem lay_mem : ∀ (r : Rem) (s : Laid), r.fok P → (∀ q ∈ (layR r s).1, q ∈ s.1 ∨ q.fok P) ∧ ∀ l ∈ (layR r s).2, l ∈ s.2 ∨ ∀ q ∈ l, q.fok P ∧ q.sz ≤ r.sz
  | .or rs, s, h => by
    rw [layR]
    rw [Rem.fok, foks_iff] at h
    refine ⟨fun q hq => .inl hq, fun l hl => ?_⟩
    rcases List.mem_append.mp hl with m | m
    · exact .inl m
    · rw [List.mem_singleton.mp m]
      exact .inr fun q hq => ⟨h q hq, by have := szs_mem hq; rw [Rem.sz]; omega⟩
  | .and rs, s, h => by
    rw [layR]
    rw [Rem.fok] at h
    obtain ⟨h1, h2⟩ := lays_mem rs s h
    exact ⟨h1, fun l hl => (h2 l hl).imp id fun g q hq => ⟨(g q hq).1, by have := (g q hq).2; rw [Rem.sz]; omega⟩⟩
  | .most a, s, h => by
    rw [layR]
    exact ⟨fun q hq => (List.mem_append.mp hq).imp id fun m => by rw [List.mem_singleton.mp m]; exact h, fun l hl => .inl hl⟩
  | .rest a m, s, h => by
    rw [layR]
    exact ⟨fun q hq => (List.mem_append.mp hq).imp id fun m => by rw [List.mem_singleton.mp m]; exact h, fun l hl => .inl hl⟩
  | .at _ _, _, h => by rw [Rem.fok] at h; exact h.elim
  | .not _, _, h => by rw [Rem.fok] at h; exact h.elim
theorem lays_mem : ∀ (rs : List Rem) (s : Laid), foks P rs → (∀ q ∈ (layRs rs s).1, q ∈ s.1 ∨ q.fok P) ∧ ∀ l ∈ (layRs rs s).2, l ∈ s.2 ∨ ∀ q ∈ l, q.fok P ∧ q.sz ≤ szs rs
  | [], s, _ => by
    rw [layRs]
    exact ⟨fun q hq => .inl hq, fun l hl => .inl hl⟩
  | r :: rs, s, h => by
    rw [layRs]
    rw [foks] at h
    obtain ⟨h1, h2⟩ := lay_mem r s h.1
    obtain ⟨h3, h4⟩ := lays_mem rs (layR r s) h.2
    refine ⟨fun q hq => (h3 q hq).elim (h1 q) .inr, fun l hl => ?_⟩
    rcases h4 l hl with m | m
    · exact (h2 l m).imp id fun g q hq => ⟨(g q hq).1, by have := (g q hq).2; rw [szs]; omega⟩
    · exact .inr fun q hq => ⟨(m q hq).1, by have := (m q hq).2; rw [szs]; omega⟩
end
end
/-! papers that are no giants, without dicts -/
mutual
def fitD : D → Bool
  | .int i => decide (-(2 ^ 148) ≤ i ∧ i ≤ 2 ^ 148)
  | .tup ds => fitAll ds
  | .lst ds => fitAll ds
  | .dic _ _ => false
  | .scr _ => false
  | .nst _ => false
  | .exc _ _ _ _ => false
  | _ => true
def fitAll : List D → Bool
  | [] => true
  | d :: ds => fitD d && fitAll ds
end
theorem fitAll_iff : ∀ {ds : List D}, fitAll ds = true ↔ ∀ d ∈ ds, fitD d = true
  | [] => by simp [fitAll]
  | d :: ds => by rw [fitAll, Bool.and_eq_true, fitAll_iff (ds := ds)]; simp
mutual
theorem fit_noDic : ∀ d : D, fitD d = true → noDic d = true
  | .int _, _ => rfl
  | .non, _ => rfl
  | .bl _, _ => rfl
  | .str _, _ => rfl
  | .tup ds, h => by rw [fitD] at h; rw [noDic]; exact fit_noDics ds h
  | .lst ds, h => by rw [fitD] at h; rw [noDic]; exact fit_noDics ds h
  | .dic _ _, h => by rw [fitD] at h; cases h
  | .scr _, h => by rw [fitD] at h; cases h
  | .nst _, h => by rw [fitD] at h; cases h
  | .exc _ _ _ _, h => by rw [fitD] at h; cases h
theorem fit_noDics : ∀ ds : List D, fitAll ds = true → noDics ds = true
  | [], _ => rfl
  | d :: ds, h => by
    rw [fitAll, Bool.and_eq_true] at h
    rw [noDics, fit_noDic d h.1, fit_noDics ds h.2]
    rfl
end
end Cal

end
section
set_option maxRecDepth 100000
set_option autoImplicit false
/-! Sums in their one form: sorted, each box once, none 0. -/
namespace Cal
open PySem L2 Dt
theorem eqv_str (x y : Str) : PyData.eqv (.str x) (.str y) = decide (x = y) := by
  unfold PyData.eqv
  by_cases h : x = y <;> simp [h]
theorem lt_pr (x y : Str) (v w : Int) : PySem.W.dataLt (pdD (encPr (x, v))) (pdD (encPr (y, w))) = if x = y then decide (v < w) else decide (x.cps.toList < y.cps.toList) := by
  unfold encPr
  simp only [pdD, pdAll]
  rw [PySem.W.dataLt_tuple]
  by_cases h : x = y
  · rw [if_pos h, PySem.W.dataLt_all_yes rfl (by rw [eqv_str]; exact decide_eq_true h)]
    by_cases h2 : v = w
    · subst h2
      rw [PySem.W.dataLt_all_yes rfl (by simp [PyData.eqv])]
      simp
      rfl
    · rw [PySem.W.dataLt_all_no rfl (by simp [PyData.eqv, h2]), PySem.W.dataLt_int]
  · rw [if_neg h, PySem.W.dataLt_all_no rfl (by rw [eqv_str]; exact decide_eq_false h), PySem.W.dataLt_str]
theorem lePr_eq (p q : Pr) : lePr p q = if p.1 = q.1 then decide (p.2 ≤ q.2) else leStr p.1 q.1 := by
  obtain ⟨x, v⟩ := p
  obtain ⟨y, w⟩ := q
  unfold lePr sleD
  rw [lt_pr]
  dsimp only
  by_cases h : x = y
  · subst h
    rw [if_pos rfl, if_pos rfl]
    by_cases c : w < v
    · rw [decide_eq_true c, decide_eq_false (by omega)]; rfl
    · rw [decide_eq_false c, decide_eq_true (by omega)]; rfl
  · rw [if_neg (fun e => h e.symm), if_neg h]
    unfold leStr
    by_cases c : y.cps.toList < x.cps.toList
    · rw [decide_eq_true c, decide_eq_false (List.not_le.mpr c)]; rfl
    · rw [decide_eq_false c, decide_eq_true (List.not_lt.mp c)]; rfl
theorem lePr_tot (a b : Pr) : (lePr a b || lePr b a) = true := by
  rw [lePr_eq, lePr_eq]
  by_cases h : a.1 = b.1
  · rw [if_pos h, if_pos h.symm]
    simp only [Bool.or_eq_true, decide_eq_true_eq]
    omega
  · rw [if_neg h, if_neg (fun e => h e.symm)]
    exact leStr_tot _ _
theorem lePr_le {a b : Pr} (h : lePr a b = true) : leStr a.1 b.1 = true := by
  rw [lePr_eq] at h
  split at h
  · rename_i e
    rw [e]
    have := leStr_tot b.1 b.1
    simpa using this
  · exact h
theorem lePr_trans (a b c : Pr) (h : lePr a b = true) (h' : lePr b c = true) : lePr a c = true := by
  have l1 := lePr_le h
  have l2 := lePr_le h'
  rw [lePr_eq] at h h' ⊢
  by_cases e1 : a.1 = b.1
  · rw [if_pos e1] at h
    by_cases e2 : b.1 = c.1
    · rw [if_pos e2] at h'
      rw [if_pos (e1.trans e2)]
      simp only [decide_eq_true_eq] at *
      omega
    · rw [if_neg (fun e => e2 (e1.symm.trans e)), e1]
      exact l2
  · by_cases e2 : a.1 = c.1
    · exfalso
      rw [← e2] at l2
      exact e1 (leStr_anti l1 l2)
    · rw [if_neg e2]
      exact leStr_trans _ _ _ l1 l2
/-- in the one form -/
structure Canon (l : List Pr) : Prop where
  nd : (l.map (·.1)).Nodup
  nz : ∀ p ∈ l, p.2 ≠ 0
  so : (l.map (·.1)).Pairwise fun a b => leStr a b = true
theorem lin_ind_out {x : Str} : ∀ {l : List Pr}, x ∉ l.map (·.1) → lin (ind x) l = 0
  | [], _ => rfl
  | p :: l, h => by
    rw [List.map_cons, List.mem_cons, not_or] at h
    rw [lin_cons, lin_ind_out h.2]
    unfold ind
    have : ¬ p.1 = x := fun e => h.1 e.symm
    simp [this, h.1]
theorem canon_mem {l : List Pr} (h : Canon l) (x : Str) : x ∈ l.map (·.1) ↔ lin (ind x) l ≠ 0 := by
  constructor
  · intro m
    obtain ⟨p, hp, rfl⟩ := List.mem_map.mp m
    rw [ind_in h.nd (show (p.1, p.2) ∈ l from hp)]
    exact h.nz p hp
  · intro n
    by_cases m : x ∈ l.map (·.1)
    · exact m
    · exact absurd (lin_ind_out m) n
theorem canon_self {l : List Pr} (nd : (l.map (·.1)).Nodup) : l = (l.map (·.1)).map fun x => (x, lin (ind x) l) := by
  rw [List.map_map]
  have : ∀ p ∈ l, p = ((fun x => (x, lin (ind x) l)) ∘ fun p : Pr => p.1) p := fun p hp => by
    show p = (p.1, lin (ind p.1) l)
    rw [ind_in nd (show (p.1, p.2) ∈ l from hp)]
  have e : l.map ((fun x => (x, lin (ind x) l)) ∘ fun p : Pr => p.1) = l.map id := List.map_congr_left fun p hp => (this p hp).symm
  rw [e, List.map_id]
theorem canon_eq {l m : List Pr} (hl : Canon l) (hm : Canon m) (h : ∀ x, lin (ind x) l = lin (ind x) m) : l = m := by
  have names : l.map (·.1) = m.map (·.1) := by
    refine perm_uniq (le := leStr) (fun _ _ => leStr_anti) ?_ hl.so hm.so
    refine (List.perm_ext_iff_of_nodup hl.nd hm.nd).mpr fun x => ?_
    rw [canon_mem hl, canon_mem hm, h]
  rw [canon_self hl.nd, canon_self hm.nd, names]
  exact List.map_congr_left fun x _ => by rw [h]
theorem pw_names {l : List Pr} (h : l.Pairwise fun a b => lePr a b = true) : (l.map (·.1)).Pairwise fun a b => leStr a b = true := by
  rw [List.pairwise_map]
  exact h.imp lePr_le
theorem sumOf_canon (n : Int) (ps : List Pr) : Canon (sumOf n ps).2 := by
  refine ⟨sumOf_nd n ps, fun p hp => ?_, pw_names (List.pairwise_mergeSort lePr_trans lePr_tot _)⟩
  have h := List.mem_mergeSort.mp hp
  have := (List.mem_filter.mp h).2
  simpa using this
theorem canon_nil : Canon [] := ⟨List.nodup_nil, (fun _ h => by cases h), List.Pairwise.nil⟩
theorem canon_one (x : Str) {t : Int} (h : t ≠ 0) : Canon [(x, t)] := ⟨by simp, fun p hp => by rw [List.mem_singleton.mp hp]; exact h, by simp⟩
theorem sumOf_of_canon (n : Int) {l : List Pr} (h : Canon l) : sumOf n l = (n, l) := by
  have : (sumOf n l).2 = l := canon_eq (sumOf_canon n l) h fun x => sumOf_lin _ _ _
  show (n, (sumOf n l).2) = _
  rw [this]
/-- the law's own sum of one and a multiple -/
theorem law_plus_eq (a c : Sm) (t : Int) (bk : Bk) (nd : (bk.map (·.1)).Nodup) (h : ∀ x, lin (ind x) bk = lin (ind x) a.2 + lin (ind x) c.2 * t) :
    (a.1 + c.1 * t, (((bk.map (·.1)).mergeSort leStr).filter fun x => !(bget bk x == 0)).map fun x => (x, bget bk x)) = plusS a (byS c t) := by
  have p := List.mergeSort_perm (bk.map (·.1)) leStr
  have ndm : ((bk.map (·.1)).mergeSort leStr).Nodup := p.nodup_iff.mpr nd
  have gb : ∀ x ∈ bk.map (·.1), bget bk x = lin (ind x) bk := fun x hx => by
    obtain ⟨q, hq, rfl⟩ := List.mem_map.mp hx
    rw [ind_in nd (show (q.1, q.2) ∈ bk from hq)]
    have key : ∀ (b : Bk), (b.map (·.1)).Nodup → q ∈ b → bget b q.1 = q.2 := fun b => by
      induction b with
      | nil => intro _ h; cases h
      | cons z b ih =>
        intro nd h
        obtain ⟨j, v⟩ := z
        rw [List.map_cons, List.nodup_cons] at nd
        rw [bget]
        rcases List.mem_cons.mp h with rfl | h
        · rw [if_pos rfl]
        · rw [if_neg (fun e : j = q.1 => nd.1 (by rw [e]; exact List.mem_map.mpr ⟨q, h, rfl⟩))]
          exact ih nd.2 h
    exact key bk nd hq
  have e2 : (plusS a (byS c t)).2 = ((((bk.map (·.1)).mergeSort leStr).filter fun x => !(bget bk x == 0)).map fun x => (x, bget bk x)) := by
    refine (canon_eq ⟨?_, fun q hq => ?_, ?_⟩ (sumOf_canon _ _) fun x => ?_).symm
    · rw [List.map_map]
      have : (((bk.map (·.1)).mergeSort leStr).filter fun x => !(bget bk x == 0)).map ((fun q : Pr => q.1) ∘ fun x => (x, bget bk x)) = ((bk.map (·.1)).mergeSort leStr).filter fun x => !(bget bk x == 0) := List.map_id _
      rw [this]
      exact List.filter_sublist.nodup ndm
    · obtain ⟨x, hx, rfl⟩ := List.mem_map.mp hq
      simpa using (List.mem_filter.mp hx).2
    · rw [List.map_map]
      have : (((bk.map (·.1)).mergeSort leStr).filter fun x => !(bget bk x == 0)).map ((fun q : Pr => q.1) ∘ fun x => (x, bget bk x)) = ((bk.map (·.1)).mergeSort leStr).filter fun x => !(bget bk x == 0) := List.map_id _
      rw [this]
      exact (List.pairwise_mergeSort leStr_trans leStr_tot _).sublist List.filter_sublist
    · rw [sumOf_lin, lin_append]
      show _ = lin (ind x) a.2 + lin (ind x) (sumOf (c.1 * t) (c.2.map fun p => (p.1, p.2 * t))).2
      rw [sumOf_lin, lin_mul, ← h]
      -- the filtered and sorted one has the book's values
      have key : ∀ (L : List Str), L.Nodup → (∀ y ∈ L, bget bk y = lin (ind y) bk) → lin (ind x) ((L.filter fun y => !(bget bk y == 0)).map fun y => (y, bget bk y)) = if x ∈ L then lin (ind x) bk else 0 := fun L => by
        induction L with
        | nil => intro _ _; rfl
        | cons y L ih =>
          intro nd hL
          rw [List.nodup_cons] at nd
          have i := ih nd.2 fun z hz => hL z (List.mem_cons_of_mem _ hz)
          have hy := hL y List.mem_cons_self
          rw [List.filter_cons]
          by_cases e : x = y
          · subst e
            rw [if_neg nd.1] at i
            rw [if_pos List.mem_cons_self, ← hy]
            by_cases z : bget bk x = 0
            · rw [if_neg (by simp [z]), i, z]
            · rw [if_pos (by simp [z]), List.map_cons, lin_cons, i]
              unfold ind
              simp
          · have m : (if x ∈ y :: L then lin (ind x) bk else 0) = if x ∈ L then lin (ind x) bk else 0 := by simp [e]
            rw [m]
            by_cases z : bget bk y = 0
            · rw [if_neg (by simp [z]), i]
            · rw [if_pos (by simp [z]), List.map_cons, lin_cons, i]
              unfold ind
              have e' : ¬ y = x := fun h => e h.symm
              simp [e, e']
      rw [key _ ndm fun y hy => gb y (p.subset hy)]
      by_cases m : x ∈ (bk.map (·.1)).mergeSort leStr
      · rw [if_pos m]
      · rw [if_neg m, lin_ind_out fun q => m (p.symm.subset q)]
  show _ = (a.1 + c.1 * t, (plusS a (byS c t)).2)
  rw [e2]
end Cal

end
section
set_option maxRecDepth 100000
set_option autoImplicit false

namespace My
open PySem PySem.Spec L2 Dt
def fuel : Nat := 3000
def topS (i : Nat) : Stmt := PySem.Challenge.pw_calm_k04_refusals.main.body.getD i (.Pass ⟨0, 0, 0, 0⟩)
structure Txt (K : PySem.W.Frag) (mg : Str → Option Value) (cCalmError cNoText cNoName cTwice cTooMany cNoStep cNoLock : Addr) : Prop where
  b_ValueError : mg "ValueError" = none
  b_isinstance : mg "isinstance" = none
  b_len : mg "len" = none
  b_range : mg "range" = none
  x_NoLock : ExF K mg "NoLock" cNoLock "step"
  x_NoText : ExF K mg "NoText" cNoText "row"
  x_NoName : ExF K mg "NoName" cNoName "name"
  x_Twice : ExF K mg "Twice" cTwice "name"
  x_TooMany : ExF K mg "TooMany" cTooMany "most"
  x_NoStep : ExF K mg "NoStep" cNoStep "place"
  e_NoLock : ExK K cNoLock "step"
  e_NoText : ExK K cNoText "row"
  e_NoName : ExK K cNoName "name"
  e_Twice : ExK K cTwice "name"
  e_TooMany : ExK K cTooMany "most"
  e_NoStep : ExK K cNoStep "place"
  n_CalmError : mg "CalmError" = some (.ref cCalmError)
  n_NoLock : mg "NoLock" = some (.ref cNoLock)
  n_NoName : mg "NoName" = some (.ref cNoName)
  n_NoStep : mg "NoStep" = some (.ref cNoStep)
  n_NoText : mg "NoText" = some (.ref cNoText)
  n_TooMany : mg "TooMany" = some (.ref cTooMany)
  n_Twice : mg "Twice" = some (.ref cTwice)
  m_NoLock_CalmError : PySem.W.exmOne K (.ref cNoLock) (.ref cCalmError) = some true
  m_NoLock_TooMany : PySem.W.exmOne K (.ref cNoLock) (.ref cTooMany) = some false
  m_NoLock_Twice : PySem.W.exmOne K (.ref cNoLock) (.ref cTwice) = some false
  m_NoLock_NoName : PySem.W.exmOne K (.ref cNoLock) (.ref cNoName) = some false
  m_NoLock_NoText : PySem.W.exmOne K (.ref cNoLock) (.ref cNoText) = some false
  m_NoLock_NoLock : PySem.W.exmOne K (.ref cNoLock) (.ref cNoLock) = some true
  m_NoLock_NoStep : PySem.W.exmOne K (.ref cNoLock) (.ref cNoStep) = some false
  m_NoText_CalmError : PySem.W.exmOne K (.ref cNoText) (.ref cCalmError) = some true
  m_NoText_TooMany : PySem.W.exmOne K (.ref cNoText) (.ref cTooMany) = some false
  m_NoText_Twice : PySem.W.exmOne K (.ref cNoText) (.ref cTwice) = some false
  m_NoText_NoName : PySem.W.exmOne K (.ref cNoText) (.ref cNoName) = some false
  m_NoText_NoText : PySem.W.exmOne K (.ref cNoText) (.ref cNoText) = some true
  m_NoText_NoLock : PySem.W.exmOne K (.ref cNoText) (.ref cNoLock) = some false
  m_NoText_NoStep : PySem.W.exmOne K (.ref cNoText) (.ref cNoStep) = some false
  m_NoName_CalmError : PySem.W.exmOne K (.ref cNoName) (.ref cCalmError) = some true
  m_NoName_TooMany : PySem.W.exmOne K (.ref cNoName) (.ref cTooMany) = some false
  m_NoName_Twice : PySem.W.exmOne K (.ref cNoName) (.ref cTwice) = some false
  m_NoName_NoName : PySem.W.exmOne K (.ref cNoName) (.ref cNoName) = some true
  m_NoName_NoText : PySem.W.exmOne K (.ref cNoName) (.ref cNoText) = some false
  m_NoName_NoLock : PySem.W.exmOne K (.ref cNoName) (.ref cNoLock) = some false
  m_NoName_NoStep : PySem.W.exmOne K (.ref cNoName) (.ref cNoStep) = some false
  m_Twice_CalmError : PySem.W.exmOne K (.ref cTwice) (.ref cCalmError) = some true
  m_Twice_TooMany : PySem.W.exmOne K (.ref cTwice) (.ref cTooMany) = some false
  m_Twice_Twice : PySem.W.exmOne K (.ref cTwice) (.ref cTwice) = some true
  m_Twice_NoName : PySem.W.exmOne K (.ref cTwice) (.ref cNoName) = some false
  m_Twice_NoText : PySem.W.exmOne K (.ref cTwice) (.ref cNoText) = some false
  m_Twice_NoLock : PySem.W.exmOne K (.ref cTwice) (.ref cNoLock) = some false
  m_Twice_NoStep : PySem.W.exmOne K (.ref cTwice) (.ref cNoStep) = some false
  m_TooMany_CalmError : PySem.W.exmOne K (.ref cTooMany) (.ref cCalmError) = some true
  m_TooMany_TooMany : PySem.W.exmOne K (.ref cTooMany) (.ref cTooMany) = some true
  m_TooMany_Twice : PySem.W.exmOne K (.ref cTooMany) (.ref cTwice) = some false
  m_TooMany_NoName : PySem.W.exmOne K (.ref cTooMany) (.ref cNoName) = some false
  m_TooMany_NoText : PySem.W.exmOne K (.ref cTooMany) (.ref cNoText) = some false
  m_TooMany_NoLock : PySem.W.exmOne K (.ref cTooMany) (.ref cNoLock) = some false
  m_TooMany_NoStep : PySem.W.exmOne K (.ref cTooMany) (.ref cNoStep) = some false
  m_NoStep_CalmError : PySem.W.exmOne K (.ref cNoStep) (.ref cCalmError) = some true
  m_NoStep_TooMany : PySem.W.exmOne K (.ref cNoStep) (.ref cTooMany) = some false
  m_NoStep_Twice : PySem.W.exmOne K (.ref cNoStep) (.ref cTwice) = some false
  m_NoStep_NoName : PySem.W.exmOne K (.ref cNoStep) (.ref cNoName) = some false
  m_NoStep_NoText : PySem.W.exmOne K (.ref cNoStep) (.ref cNoText) = some false
  m_NoStep_NoLock : PySem.W.exmOne K (.ref cNoStep) (.ref cNoLock) = some false
  m_NoStep_NoStep : PySem.W.exmOne K (.ref cNoStep) (.ref cNoStep) = some true
  k_NoLock_TooMany : PySem.W.kitOne K (.ref cNoLock) (.ref cTooMany) = some false
  k_NoText_TooMany : PySem.W.kitOne K (.ref cNoText) (.ref cTooMany) = some false
  k_NoName_TooMany : PySem.W.kitOne K (.ref cNoName) (.ref cTooMany) = some false
  k_Twice_TooMany : PySem.W.kitOne K (.ref cTwice) (.ref cTooMany) = some false
  k_TooMany_TooMany : PySem.W.kitOne K (.ref cTooMany) (.ref cTooMany) = some true
  k_NoStep_TooMany : PySem.W.kitOne K (.ref cNoStep) (.ref cTooMany) = some false
  k_NoLock_Twice : PySem.W.kitOne K (.ref cNoLock) (.ref cTwice) = some false
  k_NoText_Twice : PySem.W.kitOne K (.ref cNoText) (.ref cTwice) = some false
  k_NoName_Twice : PySem.W.kitOne K (.ref cNoName) (.ref cTwice) = some false
  k_Twice_Twice : PySem.W.kitOne K (.ref cTwice) (.ref cTwice) = some true
  k_TooMany_Twice : PySem.W.kitOne K (.ref cTooMany) (.ref cTwice) = some false
  k_NoStep_Twice : PySem.W.kitOne K (.ref cNoStep) (.ref cTwice) = some false
  k_NoLock_NoName : PySem.W.kitOne K (.ref cNoLock) (.ref cNoName) = some false
  k_NoText_NoName : PySem.W.kitOne K (.ref cNoText) (.ref cNoName) = some false
  k_NoName_NoName : PySem.W.kitOne K (.ref cNoName) (.ref cNoName) = some true
  k_Twice_NoName : PySem.W.kitOne K (.ref cTwice) (.ref cNoName) = some false
  k_TooMany_NoName : PySem.W.kitOne K (.ref cTooMany) (.ref cNoName) = some false
  k_NoStep_NoName : PySem.W.kitOne K (.ref cNoStep) (.ref cNoName) = some false
  k_NoLock_NoText : PySem.W.kitOne K (.ref cNoLock) (.ref cNoText) = some false
  k_NoText_NoText : PySem.W.kitOne K (.ref cNoText) (.ref cNoText) = some true
  k_NoName_NoText : PySem.W.kitOne K (.ref cNoName) (.ref cNoText) = some false
  k_Twice_NoText : PySem.W.kitOne K (.ref cTwice) (.ref cNoText) = some false
  k_TooMany_NoText : PySem.W.kitOne K (.ref cTooMany) (.ref cNoText) = some false
  k_NoStep_NoText : PySem.W.kitOne K (.ref cNoStep) (.ref cNoText) = some false
  k_NoLock_NoLock : PySem.W.kitOne K (.ref cNoLock) (.ref cNoLock) = some true
  k_NoText_NoLock : PySem.W.kitOne K (.ref cNoText) (.ref cNoLock) = some false
  k_NoName_NoLock : PySem.W.kitOne K (.ref cNoName) (.ref cNoLock) = some false
  k_Twice_NoLock : PySem.W.kitOne K (.ref cTwice) (.ref cNoLock) = some false
  k_TooMany_NoLock : PySem.W.kitOne K (.ref cTooMany) (.ref cNoLock) = some false
  k_NoStep_NoLock : PySem.W.kitOne K (.ref cNoStep) (.ref cNoLock) = some false
  k_NoLock_NoStep : PySem.W.kitOne K (.ref cNoLock) (.ref cNoStep) = some false
  k_NoText_NoStep : PySem.W.kitOne K (.ref cNoText) (.ref cNoStep) = some false
  k_NoName_NoStep : PySem.W.kitOne K (.ref cNoName) (.ref cNoStep) = some false
  k_Twice_NoStep : PySem.W.kitOne K (.ref cTwice) (.ref cNoStep) = some false
  k_TooMany_NoStep : PySem.W.kitOne K (.ref cTooMany) (.ref cNoStep) = some false
  k_NoStep_NoStep : PySem.W.kitOne K (.ref cNoStep) (.ref cNoStep) = some true
  k_NoLock_ValueError : PySem.W.kitOne K (.ref cNoLock) (.type "ValueError") = some true
  k_NoText_ValueError : PySem.W.kitOne K (.ref cNoText) (.type "ValueError") = some true
  k_NoName_ValueError : PySem.W.kitOne K (.ref cNoName) (.type "ValueError") = some true
  k_Twice_ValueError : PySem.W.kitOne K (.ref cTwice) (.type "ValueError") = some true
  k_TooMany_ValueError : PySem.W.kitOne K (.ref cTooMany) (.type "ValueError") = some true
  k_NoStep_ValueError : PySem.W.kitOne K (.ref cNoStep) (.type "ValueError") = some true
  k_NoLock_CalmError : PySem.W.kitOne K (.ref cNoLock) (.ref cCalmError) = some true
  k_NoText_CalmError : PySem.W.kitOne K (.ref cNoText) (.ref cCalmError) = some true
  k_NoName_CalmError : PySem.W.kitOne K (.ref cNoName) (.ref cCalmError) = some true
  k_Twice_CalmError : PySem.W.kitOne K (.ref cTwice) (.ref cCalmError) = some true
  k_TooMany_CalmError : PySem.W.kitOne K (.ref cTooMany) (.ref cCalmError) = some true
  k_NoStep_CalmError : PySem.W.kitOne K (.ref cNoStep) (.ref cCalmError) = some true
def clsB : Stmt → List Stmt
  | .ClassDef _ _ _ b _ _ _ _ _ _ _ => b
  | _ => []
abbrev si_NoLock : Stmt := (clsB (topS 7)).getD 0 (.Pass ⟨0, 0, 0, 0⟩)
abbrev si_NoText : Stmt := (clsB (topS 2)).getD 0 (.Pass ⟨0, 0, 0, 0⟩)
abbrev si_NoName : Stmt := (clsB (topS 3)).getD 0 (.Pass ⟨0, 0, 0, 0⟩)
abbrev si_Twice : Stmt := (clsB (topS 4)).getD 0 (.Pass ⟨0, 0, 0, 0⟩)
abbrev si_TooMany : Stmt := (clsB (topS 5)).getD 0 (.Pass ⟨0, 0, 0, 0⟩)
abbrev si_NoStep : Stmt := (clsB (topS 6)).getD 0 (.Pass ⟨0, 0, 0, 0⟩)
theorem sci_NoLock : FnScope ["self", "step"] ["self", "step"] (defScope si_NoLock) := ⟨rfl, rfl, rfl, by decide +kernel, rfl, by decide +kernel, by decide +kernel⟩
theorem sci_NoText : FnScope ["self", "row"] ["self", "row"] (defScope si_NoText) := ⟨rfl, rfl, rfl, by decide +kernel, rfl, by decide +kernel, by decide +kernel⟩
theorem sci_NoName : FnScope ["self", "name"] ["self", "name"] (defScope si_NoName) := ⟨rfl, rfl, rfl, by decide +kernel, rfl, by decide +kernel, by decide +kernel⟩
theorem sci_Twice : FnScope ["self", "name"] ["self", "name"] (defScope si_Twice) := ⟨rfl, rfl, rfl, by decide +kernel, rfl, by decide +kernel, by decide +kernel⟩
theorem sci_TooMany : FnScope ["self", "most"] ["self", "most"] (defScope si_TooMany) := ⟨rfl, rfl, rfl, by decide +kernel, rfl, by decide +kernel, by decide +kernel⟩
theorem sci_NoStep : FnScope ["self", "place"] ["self", "place"] (defScope si_NoStep) := ⟨rfl, rfl, rfl, by decide +kernel, rfl, by decide +kernel, by decide +kernel⟩
section
variable {P : Program} {w : World} {K : PySem.W.Frag} {mg : Str → Option Value} {base : Heap} {ec : EC} {cCalmError cNoText cNoName cTwice cTooMany cNoStep cNoLock : Addr}
/-! _law_cell_at -/
abbrev s__law_cell_at : Stmt := topS 9
def b__law_cell_at (cCalmError cNoText cNoName cTwice cTooMany cNoStep cNoLock : Addr) : MS := (seqS (ifS (binT ltD (.slot 1) (.v (callV lenD [(.slot 0)]))) (retS (vRV (binV itemD (.slot 0) (.slot 1)))) nxS)
    (retS (vRV (ret (.int 0)))))
def mf__law_cell_at (cCalmError cNoText cNoName cTwice cTooMany cNoStep cNoLock : Addr) : M RV := fnM 2 [0, 1] (b__law_cell_at cCalmError cNoText cNoName cTwice cTooMany cNoStep cNoLock)
theorem sc__law_cell_at : FnScope ["_law_script", "_law_k"] ["_law_script", "_law_k"] (defScope s__law_cell_at) := ⟨rfl, rfl, rfl, by decide +kernel, rfl, by decide +kernel, by decide +kernel⟩
theorem ok__law_cell_at {fa : Addr} {fd : FuncData} (T : Txt K mg cCalmError cNoText cNoName cTwice cTooMany cNoStep cNoLock) (F : Fun K "_law_cell_at" "_law_cell_at" s__law_cell_at fa fd) (hm : mg "_law_cell_at" = some (.ref fa))  : FnD P w K mg base CX0 (ecL [("NoLock", (cNoLock, "step")), ("NoText", (cNoText, "row")), ("NoName", (cNoName, "name")), ("Twice", (cTwice, "name")), ("TooMany", (cTooMany, "most")), ("NoStep", (cNoStep, "place"))]) 1 "_law_cell_at" 2 (mf__law_cell_at cCalmError cNoText cNoName cTwice cTooMany cNoStep cNoLock) :=
  fnD_mk (N := ["_law_script", "_law_k"]) (ow := [0, 1]) F hm sc__law_cell_at (by decide) (fun _ _ _ _ _ _ us hl => match us, hl with | [_, _], _ => rfl) fun cdv A outer s H E hr => by
  have hu := hu_of hr
  have hu64 := hu64_of hr
  have hN := sc__law_cell_at.nd
  exact (dss_cons (ds_if (dt_cmp op_ltDD (do_slot (pv 1)) (do_v (dv_callB call_lenV rfl T.b_len (by decide +kernel) (dos_cons (do_slot (pv 0)) dos_nil rfl) (by decide) (by decide) rfl rfl)) (nomark _)) (dss_one (ds_ret (DV.dr (dv_ix hu (do_slot (pv 0)) (do_slot (pv 1)) (fun _ _ => rfl))))) dss_nil)
    (dss_one (ds_ret (DV.dr dv_int))))
/-! _law_kinds -/
abbrev s__law_kinds : Stmt := topS 10
def b__law_kinds (cCalmError cNoText cNoName cTwice cTooMany cNoStep cNoLock : Addr) : MS := (seqS (setS 1 (lstM (consM (isXM (ecL [("NoLock", (cNoLock, "step")), ("NoText", (cNoText, "row")), ("NoName", (cNoName, "name")), ("Twice", (cTwice, "name")), ("TooMany", (cTooMany, "most")), ("NoStep", (cNoStep, "place"))]) [("NoLock", false), ("NoText", true), ("NoName", false), ("Twice", false), ("TooMany", false), ("NoStep", false)] (eName 0)) (consM (isXM (ecL [("NoLock", (cNoLock, "step")), ("NoText", (cNoText, "row")), ("NoName", (cNoName, "name")), ("Twice", (cTwice, "name")), ("TooMany", (cTooMany, "most")), ("NoStep", (cNoStep, "place"))]) [("NoLock", false), ("NoText", false), ("NoName", true), ("Twice", false), ("TooMany", false), ("NoStep", false)] (eName 0)) (consM (isXM (ecL [("NoLock", (cNoLock, "step")), ("NoText", (cNoText, "row")), ("NoName", (cNoName, "name")), ("Twice", (cTwice, "name")), ("TooMany", (cTooMany, "most")), ("NoStep", (cNoStep, "place"))]) [("NoLock", false), ("NoText", false), ("NoName", false), ("Twice", true), ("TooMany", false), ("NoStep", false)] (eName 0)) (consM (isXM (ecL [("NoLock", (cNoLock, "step")), ("NoText", (cNoText, "row")), ("NoName", (cNoName, "name")), ("Twice", (cTwice, "name")), ("TooMany", (cTooMany, "most")), ("NoStep", (cNoStep, "place"))]) [("NoLock", false), ("NoText", false), ("NoName", false), ("Twice", false), ("TooMany", true), ("NoStep", false)] (eName 0)) (ret [])))))))
    (retS (bin2 addD (.slot 1) (.v (frz (lstM (consM (isXM (ecL [("NoLock", (cNoLock, "step")), ("NoText", (cNoText, "row")), ("NoName", (cNoName, "name")), ("Twice", (cTwice, "name")), ("TooMany", (cTooMany, "most")), ("NoStep", (cNoStep, "place"))]) [("NoLock", false), ("NoText", false), ("NoName", false), ("Twice", false), ("TooMany", false), ("NoStep", true)] (eName 0)) (consM (isXM (ecL [("NoLock", (cNoLock, "step")), ("NoText", (cNoText, "row")), ("NoName", (cNoName, "name")), ("Twice", (cTwice, "name")), ("TooMany", (cTooMany, "most")), ("NoStep", (cNoStep, "place"))]) [("NoLock", true), ("NoText", false), ("NoName", false), ("Twice", false), ("TooMany", false), ("NoStep", false)] (eName 0)) (ret [])))))))))
def mf__law_kinds (cCalmError cNoText cNoName cTwice cTooMany cNoStep cNoLock : Addr) : M RV := fnM 2 [0] (b__law_kinds cCalmError cNoText cNoName cTwice cTooMany cNoStep cNoLock)
theorem sc__law_kinds : FnScope ["_law_e", "_law_some"] ["_law_e"] (defScope s__law_kinds) := ⟨rfl, rfl, rfl, by decide +kernel, rfl, by decide +kernel, by decide +kernel⟩
theorem ok__law_kinds {fa : Addr} {fd : FuncData} (T : Txt K mg cCalmError cNoText cNoName cTwice cTooMany cNoStep cNoLock) (F : Fun K "_law_kinds" "_law_kinds" s__law_kinds fa fd) (hm : mg "_law_kinds" = some (.ref fa))  : FnD P w K mg base CX0 (ecL [("NoLock", (cNoLock, "step")), ("NoText", (cNoText, "row")), ("NoName", (cNoName, "name")), ("Twice", (cTwice, "name")), ("TooMany", (cTooMany, "most")), ("NoStep", (cNoStep, "place"))]) 1 "_law_kinds" 1 (mf__law_kinds cCalmError cNoText cNoName cTwice cTooMany cNoStep cNoLock) :=
  fnD_mk (N := ["_law_e", "_law_some"]) (ow := [0]) F hm sc__law_kinds (by decide) (fun _ _ _ _ _ _ us hl => match us, hl with | [_], _ => rfl) fun cdv A outer s H E hr => by
  have hu := hu_of hr
  have hu64 := hu64_of hr
  have hN := sc__law_kinds.nd
  exact (dss_cons (ds_set (i := 1) (dr_lst (da_cons (dv_isX (dv_name (pv 0)) rfl T.b_isinstance (pe_clsName (by rfl) T.n_NoText (by decide)) (fun u r => r) (fun x C f b h hb => by
    have h := lookup_mem h
    simp only [List.mem_cons, List.not_mem_nil, or_false, Prod.mk.injEq] at h
    rcases h with h | h | h | h | h | h
    · obtain ⟨rfl, rfl, rfl⟩ := h
      rw [show ([("NoLock", false), ("NoText", true), ("NoName", false), ("Twice", false), ("TooMany", false), ("NoStep", false)] : List (Str × Bool)).lookup ("NoLock" : Str) = some false from by decide +kernel] at hb
      cases hb
      exact T.k_NoLock_NoText
    · obtain ⟨rfl, rfl, rfl⟩ := h
      rw [show ([("NoLock", false), ("NoText", true), ("NoName", false), ("Twice", false), ("TooMany", false), ("NoStep", false)] : List (Str × Bool)).lookup ("NoText" : Str) = some true from by decide +kernel] at hb
      cases hb
      exact T.k_NoText_NoText
    · obtain ⟨rfl, rfl, rfl⟩ := h
      rw [show ([("NoLock", false), ("NoText", true), ("NoName", false), ("Twice", false), ("TooMany", false), ("NoStep", false)] : List (Str × Bool)).lookup ("NoName" : Str) = some false from by decide +kernel] at hb
      cases hb
      exact T.k_NoName_NoText
    · obtain ⟨rfl, rfl, rfl⟩ := h
      rw [show ([("NoLock", false), ("NoText", true), ("NoName", false), ("Twice", false), ("TooMany", false), ("NoStep", false)] : List (Str × Bool)).lookup ("Twice" : Str) = some false from by decide +kernel] at hb
      cases hb
      exact T.k_Twice_NoText
    · obtain ⟨rfl, rfl, rfl⟩ := h
      rw [show ([("NoLock", false), ("NoText", true), ("NoName", false), ("Twice", false), ("TooMany", false), ("NoStep", false)] : List (Str × Bool)).lookup ("TooMany" : Str) = some false from by decide +kernel] at hb
      cases hb
      exact T.k_TooMany_NoText
    · obtain ⟨rfl, rfl, rfl⟩ := h
      rw [show ([("NoLock", false), ("NoText", true), ("NoName", false), ("Twice", false), ("TooMany", false), ("NoStep", false)] : List (Str × Bool)).lookup ("NoStep" : Str) = some false from by decide +kernel] at hb
      cases hb
      exact T.k_NoStep_NoText) rfl rfl rfl) (da_cons (dv_isX (dv_name (pv 0)) rfl T.b_isinstance (pe_clsName (by rfl) T.n_NoName (by decide)) (fun u r => r) (fun x C f b h hb => by
    have h := lookup_mem h
    simp only [List.mem_cons, List.not_mem_nil, or_false, Prod.mk.injEq] at h
    rcases h with h | h | h | h | h | h
    · obtain ⟨rfl, rfl, rfl⟩ := h
      rw [show ([("NoLock", false), ("NoText", false), ("NoName", true), ("Twice", false), ("TooMany", false), ("NoStep", false)] : List (Str × Bool)).lookup ("NoLock" : Str) = some false from by decide +kernel] at hb
      cases hb
      exact T.k_NoLock_NoName
    · obtain ⟨rfl, rfl, rfl⟩ := h
      rw [show ([("NoLock", false), ("NoText", false), ("NoName", true), ("Twice", false), ("TooMany", false), ("NoStep", false)] : List (Str × Bool)).lookup ("NoText" : Str) = some false from by decide +kernel] at hb
      cases hb
      exact T.k_NoText_NoName
    · obtain ⟨rfl, rfl, rfl⟩ := h
      rw [show ([("NoLock", false), ("NoText", false), ("NoName", true), ("Twice", false), ("TooMany", false), ("NoStep", false)] : List (Str × Bool)).lookup ("NoName" : Str) = some true from by decide +kernel] at hb
      cases hb
      exact T.k_NoName_NoName
    · obtain ⟨rfl, rfl, rfl⟩ := h
      rw [show ([("NoLock", false), ("NoText", false), ("NoName", true), ("Twice", false), ("TooMany", false), ("NoStep", false)] : List (Str × Bool)).lookup ("Twice" : Str) = some false from by decide +kernel] at hb
      cases hb
      exact T.k_Twice_NoName
    · obtain ⟨rfl, rfl, rfl⟩ := h
      rw [show ([("NoLock", false), ("NoText", false), ("NoName", true), ("Twice", false), ("TooMany", false), ("NoStep", false)] : List (Str × Bool)).lookup ("TooMany" : Str) = some false from by decide +kernel] at hb
      cases hb
      exact T.k_TooMany_NoName
    · obtain ⟨rfl, rfl, rfl⟩ := h
      rw [show ([("NoLock", false), ("NoText", false), ("NoName", true), ("Twice", false), ("TooMany", false), ("NoStep", false)] : List (Str × Bool)).lookup ("NoStep" : Str) = some false from by decide +kernel] at hb
      cases hb
      exact T.k_NoStep_NoName) rfl rfl rfl) (da_cons (dv_isX (dv_name (pv 0)) rfl T.b_isinstance (pe_clsName (by rfl) T.n_Twice (by decide)) (fun u r => r) (fun x C f b h hb => by
    have h := lookup_mem h
    simp only [List.mem_cons, List.not_mem_nil, or_false, Prod.mk.injEq] at h
    rcases h with h | h | h | h | h | h
    · obtain ⟨rfl, rfl, rfl⟩ := h
      rw [show ([("NoLock", false), ("NoText", false), ("NoName", false), ("Twice", true), ("TooMany", false), ("NoStep", false)] : List (Str × Bool)).lookup ("NoLock" : Str) = some false from by decide +kernel] at hb
      cases hb
      exact T.k_NoLock_Twice
    · obtain ⟨rfl, rfl, rfl⟩ := h
      rw [show ([("NoLock", false), ("NoText", false), ("NoName", false), ("Twice", true), ("TooMany", false), ("NoStep", false)] : List (Str × Bool)).lookup ("NoText" : Str) = some false from by decide +kernel] at hb
      cases hb
      exact T.k_NoText_Twice
    · obtain ⟨rfl, rfl, rfl⟩ := h
      rw [show ([("NoLock", false), ("NoText", false), ("NoName", false), ("Twice", true), ("TooMany", false), ("NoStep", false)] : List (Str × Bool)).lookup ("NoName" : Str) = some false from by decide +kernel] at hb
      cases hb
      exact T.k_NoName_Twice
    · obtain ⟨rfl, rfl, rfl⟩ := h
      rw [show ([("NoLock", false), ("NoText", false), ("NoName", false), ("Twice", true), ("TooMany", false), ("NoStep", false)] : List (Str × Bool)).lookup ("Twice" : Str) = some true from by decide +kernel] at hb
      cases hb
      exact T.k_Twice_Twice
    · obtain ⟨rfl, rfl, rfl⟩ := h
      rw [show ([("NoLock", false), ("NoText", false), ("NoName", false), ("Twice", true), ("TooMany", false), ("NoStep", false)] : List (Str × Bool)).lookup ("TooMany" : Str) = some false from by decide +kernel] at hb
      cases hb
      exact T.k_TooMany_Twice
    · obtain ⟨rfl, rfl, rfl⟩ := h
      rw [show ([("NoLock", false), ("NoText", false), ("NoName", false), ("Twice", true), ("TooMany", false), ("NoStep", false)] : List (Str × Bool)).lookup ("NoStep" : Str) = some false from by decide +kernel] at hb
      cases hb
      exact T.k_NoStep_Twice) rfl rfl rfl) (da_cons (dv_isX (dv_name (pv 0)) rfl T.b_isinstance (pe_clsName (by rfl) T.n_TooMany (by decide)) (fun u r => r) (fun x C f b h hb => by
    have h := lookup_mem h
    simp only [List.mem_cons, List.not_mem_nil, or_false, Prod.mk.injEq] at h
    rcases h with h | h | h | h | h | h
    · obtain ⟨rfl, rfl, rfl⟩ := h
      rw [show ([("NoLock", false), ("NoText", false), ("NoName", false), ("Twice", false), ("TooMany", true), ("NoStep", false)] : List (Str × Bool)).lookup ("NoLock" : Str) = some false from by decide +kernel] at hb
      cases hb
      exact T.k_NoLock_TooMany
    · obtain ⟨rfl, rfl, rfl⟩ := h
      rw [show ([("NoLock", false), ("NoText", false), ("NoName", false), ("Twice", false), ("TooMany", true), ("NoStep", false)] : List (Str × Bool)).lookup ("NoText" : Str) = some false from by decide +kernel] at hb
      cases hb
      exact T.k_NoText_TooMany
    · obtain ⟨rfl, rfl, rfl⟩ := h
      rw [show ([("NoLock", false), ("NoText", false), ("NoName", false), ("Twice", false), ("TooMany", true), ("NoStep", false)] : List (Str × Bool)).lookup ("NoName" : Str) = some false from by decide +kernel] at hb
      cases hb
      exact T.k_NoName_TooMany
    · obtain ⟨rfl, rfl, rfl⟩ := h
      rw [show ([("NoLock", false), ("NoText", false), ("NoName", false), ("Twice", false), ("TooMany", true), ("NoStep", false)] : List (Str × Bool)).lookup ("Twice" : Str) = some false from by decide +kernel] at hb
      cases hb
      exact T.k_Twice_TooMany
    · obtain ⟨rfl, rfl, rfl⟩ := h
      rw [show ([("NoLock", false), ("NoText", false), ("NoName", false), ("Twice", false), ("TooMany", true), ("NoStep", false)] : List (Str × Bool)).lookup ("TooMany" : Str) = some true from by decide +kernel] at hb
      cases hb
      exact T.k_TooMany_TooMany
    · obtain ⟨rfl, rfl, rfl⟩ := h
      rw [show ([("NoLock", false), ("NoText", false), ("NoName", false), ("Twice", false), ("TooMany", true), ("NoStep", false)] : List (Str × Bool)).lookup ("NoStep" : Str) = some false from by decide +kernel] at hb
      cases hb
      exact T.k_NoStep_TooMany) rfl rfl rfl) da_nil rfl) rfl) rfl) rfl)) hN rfl (by first | exact Or.inl rfl | exact Or.inr rfl) (by decide) rfl (Or.inl rfl))
    (dss_one (ds_ret (dr_bin op_addD (do_slot (pv 1)) (do_v (DR.dv (dr_lst (da_cons (dv_isX (dv_name (pv 0)) rfl T.b_isinstance (pe_clsName (by rfl) T.n_NoStep (by decide)) (fun u r => r) (fun x C f b h hb => by
    have h := lookup_mem h
    simp only [List.mem_cons, List.not_mem_nil, or_false, Prod.mk.injEq] at h
    rcases h with h | h | h | h | h | h
    · obtain ⟨rfl, rfl, rfl⟩ := h
      rw [show ([("NoLock", false), ("NoText", false), ("NoName", false), ("Twice", false), ("TooMany", false), ("NoStep", true)] : List (Str × Bool)).lookup ("NoLock" : Str) = some false from by decide +kernel] at hb
      cases hb
      exact T.k_NoLock_NoStep
    · obtain ⟨rfl, rfl, rfl⟩ := h
      rw [show ([("NoLock", false), ("NoText", false), ("NoName", false), ("Twice", false), ("TooMany", false), ("NoStep", true)] : List (Str × Bool)).lookup ("NoText" : Str) = some false from by decide +kernel] at hb
      cases hb
      exact T.k_NoText_NoStep
    · obtain ⟨rfl, rfl, rfl⟩ := h
      rw [show ([("NoLock", false), ("NoText", false), ("NoName", false), ("Twice", false), ("TooMany", false), ("NoStep", true)] : List (Str × Bool)).lookup ("NoName" : Str) = some false from by decide +kernel] at hb
      cases hb
      exact T.k_NoName_NoStep
    · obtain ⟨rfl, rfl, rfl⟩ := h
      rw [show ([("NoLock", false), ("NoText", false), ("NoName", false), ("Twice", false), ("TooMany", false), ("NoStep", true)] : List (Str × Bool)).lookup ("Twice" : Str) = some false from by decide +kernel] at hb
      cases hb
      exact T.k_Twice_NoStep
    · obtain ⟨rfl, rfl, rfl⟩ := h
      rw [show ([("NoLock", false), ("NoText", false), ("NoName", false), ("Twice", false), ("TooMany", false), ("NoStep", true)] : List (Str × Bool)).lookup ("TooMany" : Str) = some false from by decide +kernel] at hb
      cases hb
      exact T.k_TooMany_NoStep
    · obtain ⟨rfl, rfl, rfl⟩ := h
      rw [show ([("NoLock", false), ("NoText", false), ("NoName", false), ("Twice", false), ("TooMany", false), ("NoStep", true)] : List (Str × Bool)).lookup ("NoStep" : Str) = some true from by decide +kernel] at hb
      cases hb
      exact T.k_NoStep_NoStep) rfl rfl rfl) (da_cons (dv_isX (dv_name (pv 0)) rfl T.b_isinstance (pe_clsName (by rfl) T.n_NoLock (by decide)) (fun u r => r) (fun x C f b h hb => by
    have h := lookup_mem h
    simp only [List.mem_cons, List.not_mem_nil, or_false, Prod.mk.injEq] at h
    rcases h with h | h | h | h | h | h
    · obtain ⟨rfl, rfl, rfl⟩ := h
      rw [show ([("NoLock", true), ("NoText", false), ("NoName", false), ("Twice", false), ("TooMany", false), ("NoStep", false)] : List (Str × Bool)).lookup ("NoLock" : Str) = some true from by decide +kernel] at hb
      cases hb
      exact T.k_NoLock_NoLock
    · obtain ⟨rfl, rfl, rfl⟩ := h
      rw [show ([("NoLock", true), ("NoText", false), ("NoName", false), ("Twice", false), ("TooMany", false), ("NoStep", false)] : List (Str × Bool)).lookup ("NoText" : Str) = some false from by decide +kernel] at hb
      cases hb
      exact T.k_NoText_NoLock
    · obtain ⟨rfl, rfl, rfl⟩ := h
      rw [show ([("NoLock", true), ("NoText", false), ("NoName", false), ("Twice", false), ("TooMany", false), ("NoStep", false)] : List (Str × Bool)).lookup ("NoName" : Str) = some false from by decide +kernel] at hb
      cases hb
      exact T.k_NoName_NoLock
    · obtain ⟨rfl, rfl, rfl⟩ := h
      rw [show ([("NoLock", true), ("NoText", false), ("NoName", false), ("Twice", false), ("TooMany", false), ("NoStep", false)] : List (Str × Bool)).lookup ("Twice" : Str) = some false from by decide +kernel] at hb
      cases hb
      exact T.k_Twice_NoLock
    · obtain ⟨rfl, rfl, rfl⟩ := h
      rw [show ([("NoLock", true), ("NoText", false), ("NoName", false), ("Twice", false), ("TooMany", false), ("NoStep", false)] : List (Str × Bool)).lookup ("TooMany" : Str) = some false from by decide +kernel] at hb
      cases hb
      exact T.k_TooMany_NoLock
    · obtain ⟨rfl, rfl, rfl⟩ := h
      rw [show ([("NoLock", true), ("NoText", false), ("NoName", false), ("Twice", false), ("TooMany", false), ("NoStep", false)] : List (Str × Bool)).lookup ("NoStep" : Str) = some false from by decide +kernel] at hb
      cases hb
      exact T.k_NoStep_NoLock) rfl rfl rfl) da_nil rfl) rfl))))))))
/-! _law_made -/
abbrev s__law_made : Stmt := topS 11
def b__law_made (cCalmError cNoText cNoName cTwice cTooMany cNoStep cNoLock : Addr) : MS := (seqS (ifS (binT eqD (.slot 0) (.v (ret (.int 0)))) (seqS (setS 3 (vRV (mkM "NoText" "row" cNoText (eName 1))))
    (retS (vRV (tupM (consM (eName 3) (consM (fldM "row" (eName 3)) (consM (eName 1) (ret [])))))))) nxS)
    (seqS (ifS (binT eqD (.slot 0) (.v (ret (.int 1)))) (seqS (setS 3 (vRV (mkM "NoName" "name" cNoName (eName 2))))
    (retS (vRV (tupM (consM (eName 3) (consM (fldM "name" (eName 3)) (consM (eName 2) (ret [])))))))) nxS)
    (seqS (ifS (binT eqD (.slot 0) (.v (ret (.int 2)))) (seqS (setS 3 (vRV (mkM "Twice" "name" cTwice (eName 2))))
    (retS (vRV (tupM (consM (eName 3) (consM (fldM "name" (eName 3)) (consM (eName 2) (ret [])))))))) nxS)
    (seqS (ifS (binT eqD (.slot 0) (.v (ret (.int 3)))) (seqS (setS 3 (vRV (mkM "TooMany" "most" cTooMany (eName 1))))
    (retS (vRV (tupM (consM (eName 3) (consM (fldM "most" (eName 3)) (consM (eName 1) (ret [])))))))) nxS)
    (seqS (ifS (binT eqD (.slot 0) (.v (ret (.int 4)))) (seqS (setS 3 (vRV (mkM "NoStep" "place" cNoStep (eName 1))))
    (retS (vRV (tupM (consM (eName 3) (consM (fldM "place" (eName 3)) (consM (eName 1) (ret [])))))))) nxS)
    (seqS (setS 3 (vRV (mkM "NoLock" "step" cNoLock (eName 1))))
    (retS (vRV (tupM (consM (eName 3) (consM (fldM "step" (eName 3)) (consM (eName 1) (ret [])))))))))))))
def mf__law_made (cCalmError cNoText cNoName cTwice cTooMany cNoStep cNoLock : Addr) : M RV := fnM 4 [0, 1, 2] (b__law_made cCalmError cNoText cNoName cTwice cTooMany cNoStep cNoLock)
theorem sc__law_made : FnScope ["_law_kind", "_law_number", "_law_name", "_law_made_here"] ["_law_kind", "_law_number", "_law_name"] (defScope s__law_made) := ⟨rfl, rfl, rfl, by decide +kernel, rfl, by decide +kernel, by decide +kernel⟩
theorem ok__law_made {fa : Addr} {fd : FuncData} (T : Txt K mg cCalmError cNoText cNoName cTwice cTooMany cNoStep cNoLock) (F : Fun K "_law_made" "_law_made" s__law_made fa fd) (hm : mg "_law_made" = some (.ref fa))  : FnD P w K mg base CX0 (ecL [("NoLock", (cNoLock, "step")), ("NoText", (cNoText, "row")), ("NoName", (cNoName, "name")), ("Twice", (cTwice, "name")), ("TooMany", (cTooMany, "most")), ("NoStep", (cNoStep, "place"))]) 3 "_law_made" 3 (mf__law_made cCalmError cNoText cNoName cTwice cTooMany cNoStep cNoLock) :=
  fnD_mk (N := ["_law_kind", "_law_number", "_law_name", "_law_made_here"]) (ow := [0, 1, 2]) F hm sc__law_made (by decide) (fun _ _ _ _ _ _ us hl => match us, hl with | [_, _, _], _ => rfl) fun cdv A outer s H E hr => by
  have hu := hu_of hr
  have hu64 := hu64_of hr
  have hN := sc__law_made.nd
  exact (dss_cons (ds_if (dt_cmp (op_eqDD hu64) (do_slot (pv 0)) (do_v dv_int) (nomark _)) (dss_cons (ds_set (i := 3) (DV.dr (dv_mk T.x_NoText T.e_NoText (hr.mono (by decide)) (dv_name (pv 1)) rfl (by decide) rfl rfl)) hN rfl (by first | exact Or.inl rfl | exact Or.inr rfl) (by decide) rfl (Or.inl rfl))
    (dss_one (ds_ret (DV.dr (dv_tup (da_cons (dv_name (pv 3)) (da_cons (dv_fldX (dv_name (pv 3)) rfl) (da_cons (dv_name (pv 1)) da_nil rfl) rfl) rfl)))))) dss_nil)
    (dss_cons (ds_if (dt_cmp (op_eqDD hu64) (do_slot (pv 0)) (do_v dv_int) (nomark _)) (dss_cons (ds_set (i := 3) (DV.dr (dv_mk T.x_NoName T.e_NoName (hr.mono (by decide)) (dv_name (pv 2)) rfl (by decide) rfl rfl)) hN rfl (by first | exact Or.inl rfl | exact Or.inr rfl) (by decide) rfl (Or.inl rfl))
    (dss_one (ds_ret (DV.dr (dv_tup (da_cons (dv_name (pv 3)) (da_cons (dv_fldX (dv_name (pv 3)) rfl) (da_cons (dv_name (pv 2)) da_nil rfl) rfl) rfl)))))) dss_nil)
    (dss_cons (ds_if (dt_cmp (op_eqDD hu64) (do_slot (pv 0)) (do_v dv_int) (nomark _)) (dss_cons (ds_set (i := 3) (DV.dr (dv_mk T.x_Twice T.e_Twice (hr.mono (by decide)) (dv_name (pv 2)) rfl (by decide) rfl rfl)) hN rfl (by first | exact Or.inl rfl | exact Or.inr rfl) (by decide) rfl (Or.inl rfl))
    (dss_one (ds_ret (DV.dr (dv_tup (da_cons (dv_name (pv 3)) (da_cons (dv_fldX (dv_name (pv 3)) rfl) (da_cons (dv_name (pv 2)) da_nil rfl) rfl) rfl)))))) dss_nil)
    (dss_cons (ds_if (dt_cmp (op_eqDD hu64) (do_slot (pv 0)) (do_v dv_int) (nomark _)) (dss_cons (ds_set (i := 3) (DV.dr (dv_mk T.x_TooMany T.e_TooMany (hr.mono (by decide)) (dv_name (pv 1)) rfl (by decide) rfl rfl)) hN rfl (by first | exact Or.inl rfl | exact Or.inr rfl) (by decide) rfl (Or.inl rfl))
    (dss_one (ds_ret (DV.dr (dv_tup (da_cons (dv_name (pv 3)) (da_cons (dv_fldX (dv_name (pv 3)) rfl) (da_cons (dv_name (pv 1)) da_nil rfl) rfl) rfl)))))) dss_nil)
    (dss_cons (ds_if (dt_cmp (op_eqDD hu64) (do_slot (pv 0)) (do_v dv_int) (nomark _)) (dss_cons (ds_set (i := 3) (DV.dr (dv_mk T.x_NoStep T.e_NoStep (hr.mono (by decide)) (dv_name (pv 1)) rfl (by decide) rfl rfl)) hN rfl (by first | exact Or.inl rfl | exact Or.inr rfl) (by decide) rfl (Or.inl rfl))
    (dss_one (ds_ret (DV.dr (dv_tup (da_cons (dv_name (pv 3)) (da_cons (dv_fldX (dv_name (pv 3)) rfl) (da_cons (dv_name (pv 1)) da_nil rfl) rfl) rfl)))))) dss_nil)
    (dss_cons (ds_set (i := 3) (DV.dr (dv_mk T.x_NoLock T.e_NoLock (hr.mono (by decide)) (dv_name (pv 1)) rfl (by decide) rfl rfl)) hN rfl (by first | exact Or.inl rfl | exact Or.inr rfl) (by decide) rfl (Or.inl rfl))
    (dss_one (ds_ret (DV.dr (dv_tup (da_cons (dv_name (pv 3)) (da_cons (dv_fldX (dv_name (pv 3)) rfl) (da_cons (dv_name (pv 1)) da_nil rfl) rfl) rfl)))))))))))
/-! _law_raised -/
abbrev s__law_raised : Stmt := topS 12
def b__law_raised (cCalmError cNoText cNoName cTwice cTooMany cNoStep cNoLock : Addr) : MS := (seqS (ifS (binT eqD (.slot 0) (.v (ret (.int 0)))) (raiseS "NoText" (eName 1)) nxS)
    (seqS (ifS (binT eqD (.slot 0) (.v (ret (.int 1)))) (raiseS "NoName" (eName 2)) nxS)
    (seqS (ifS (binT eqD (.slot 0) (.v (ret (.int 2)))) (raiseS "Twice" (eName 2)) nxS)
    (seqS (ifS (binT eqD (.slot 0) (.v (ret (.int 3)))) (raiseS "TooMany" (eName 1)) nxS)
    (seqS (ifS (binT eqD (.slot 0) (.v (ret (.int 4)))) (raiseS "NoStep" (eName 1)) nxS)
    (raiseS "NoLock" (eName 1)))))))
def mf__law_raised (cCalmError cNoText cNoName cTwice cTooMany cNoStep cNoLock : Addr) : M RV := fnM 3 [0, 1, 2] (b__law_raised cCalmError cNoText cNoName cTwice cTooMany cNoStep cNoLock)
theorem sc__law_raised : FnScope ["_law_kind", "_law_number", "_law_name"] ["_law_kind", "_law_number", "_law_name"] (defScope s__law_raised) := ⟨rfl, rfl, rfl, by decide +kernel, rfl, by decide +kernel, by decide +kernel⟩
theorem ok__law_raised {fa : Addr} {fd : FuncData} (T : Txt K mg cCalmError cNoText cNoName cTwice cTooMany cNoStep cNoLock) (F : Fun K "_law_raised" "_law_raised" s__law_raised fa fd) (hm : mg "_law_raised" = some (.ref fa))  : FnD P w K mg base (L2.CX P w) (ecL [("NoLock", (cNoLock, "step")), ("NoText", (cNoText, "row")), ("NoName", (cNoName, "name")), ("Twice", (cTwice, "name")), ("TooMany", (cTooMany, "most")), ("NoStep", (cNoStep, "place"))]) 3 "_law_raised" 3 (mf__law_raised cCalmError cNoText cNoName cTwice cTooMany cNoStep cNoLock) :=
  fnD_mk (N := ["_law_kind", "_law_number", "_law_name"]) (ow := [0, 1, 2]) F hm sc__law_raised (by decide) (fun _ _ _ _ _ _ us hl => match us, hl with | [_, _, _], _ => rfl) fun cdv A outer s H E hr => by
  have hu := hu_of hr
  have hu64 := hu64_of hr
  have hN := sc__law_raised.nd
  exact (with_tk (fun tk => (dss_cons (ds_if (dt_cmp (op_eqDD hu64) (do_slot (pv 0)) (do_v dv_int) (nomark _)) (dss_one (ds_raise rfl tk T.x_NoText rfl (hr.mono (by decide)) (dv_name (pv 1)) rfl (by decide) rfl rfl)) dss_nil)
    (dss_cons (ds_if (dt_cmp (op_eqDD hu64) (do_slot (pv 0)) (do_v dv_int) (nomark _)) (dss_one (ds_raise rfl tk T.x_NoName rfl (hr.mono (by decide)) (dv_name (pv 2)) rfl (by decide) rfl rfl)) dss_nil)
    (dss_cons (ds_if (dt_cmp (op_eqDD hu64) (do_slot (pv 0)) (do_v dv_int) (nomark _)) (dss_one (ds_raise rfl tk T.x_Twice rfl (hr.mono (by decide)) (dv_name (pv 2)) rfl (by decide) rfl rfl)) dss_nil)
    (dss_cons (ds_if (dt_cmp (op_eqDD hu64) (do_slot (pv 0)) (do_v dv_int) (nomark _)) (dss_one (ds_raise rfl tk T.x_TooMany rfl (hr.mono (by decide)) (dv_name (pv 1)) rfl (by decide) rfl rfl)) dss_nil)
    (dss_cons (ds_if (dt_cmp (op_eqDD hu64) (do_slot (pv 0)) (do_v dv_int) (nomark _)) (dss_one (ds_raise rfl tk T.x_NoStep rfl (hr.mono (by decide)) (dv_name (pv 1)) rfl (by decide) rfl rfl)) dss_nil)
    (dss_one (ds_raise rfl tk T.x_NoLock rfl (hr.mono (by decide)) (dv_name (pv 1)) rfl (by decide) rfl rfl)))))))) (takes_of rfl rfl rfl rfl))
/-! law -/
abbrev s_law : Stmt := topS 13
def b_law_1 (cCalmError cNoText cNoName cTwice cTooMany cNoStep cNoLock : Addr) : MS := (seqS (setS 4 (callF (mf__law_made cCalmError cNoText cNoName cTwice cTooMany cNoStep cNoLock) [(.slot 3), (.slot 1), (.slot 2)]))
    (seqS (ifS (orT (notT (opdT (.v (isXM (ecL [("NoLock", (cNoLock, "step")), ("NoText", (cNoText, "row")), ("NoName", (cNoName, "name")), ("Twice", (cTwice, "name")), ("TooMany", (cTooMany, "most")), ("NoStep", (cNoStep, "place"))]) [("NoLock", true), ("NoText", true), ("NoName", true), ("Twice", true), ("TooMany", true), ("NoStep", true)] (binV itemD (.slot 4) (.v (ret (.int 0)))))))) (orT (notT (opdT (.v (isXM (ecL [("NoLock", (cNoLock, "step")), ("NoText", (cNoText, "row")), ("NoName", (cNoName, "name")), ("Twice", (cTwice, "name")), ("TooMany", (cTooMany, "most")), ("NoStep", (cNoStep, "place"))]) [("NoLock", true), ("NoText", true), ("NoName", true), ("Twice", true), ("TooMany", true), ("NoStep", true)] (binV itemD (.slot 4) (.v (ret (.int 0)))))))) (binT neD (.v (binV itemD (.slot 4) (.v (ret (.int 1))))) (.v (binV itemD (.slot 4) (.v (ret (.int 2)))))))) (retS (vRV (ret (.bl false)))) nxS)
    (seqS (ifS (binT neD (.v (frz (callF (mf__law_kinds cCalmError cNoText cNoName cTwice cTooMany cNoStep cNoLock) [(.v (binV itemD (.slot 4) (.v (ret (.int 0)))))]))) (.v (frz (lcM [7] (.name 7) (callI rng1 [(.v (ret (.int 6)))]) (ret true) (binV eqD (.slot 7) (.slot 3)))))) (retS (vRV (ret (.bl false)))) nxS)
    (seqS (setS 5 (vRV (ret .non)))
    (seqS (tryK (exprS (frz (callF (mf__law_raised cCalmError cNoText cNoName cTwice cTooMany cNoStep cNoLock) [(.slot 3), (.slot 1), (.slot 2)]))) (fun x => (["NoLock", "NoText", "NoName", "Twice", "TooMany", "NoStep"] : List Str).contains x) (ecL [("NoLock", (cNoLock, "step")), ("NoText", (cNoText, "row")), ("NoName", (cNoName, "name")), ("Twice", (cTwice, "name")), ("TooMany", (cTooMany, "most")), ("NoStep", (cNoStep, "place"))]) 6 5)
    (ifS (notT (opdT (.v (binV itemD (.v (frz (callF (mf__law_kinds cCalmError cNoText cNoName cTwice cTooMany cNoStep cNoLock) [(.slot 5)]))) (.slot 3))))) (retS (vRV (ret (.bl false)))) nxS))))))
def b_law (cCalmError cNoText cNoName cTwice cTooMany cNoStep cNoLock : Addr) : MS := (seqS (setS 1 (vRV (binV modD (.v (frz (callF (mf__law_cell_at cCalmError cNoText cNoName cTwice cTooMany cNoStep cNoLock) [(.slot 0), (.v (ret (.int 0)))]))) (.v (binV powD (.v (ret (.int 10))) (.v (ret (.int 6))))))))
    (seqS (setS 2 (sliceM (.v (ret (.str "qzxhilld"))) (somM (binV modD (.v (frz (callF (mf__law_cell_at cCalmError cNoText cNoName cTwice cTooMany cNoStep cNoLock) [(.slot 0), (.v (ret (.int 1)))]))) (.v (ret (.int 8))))) (ret none)))
    (seqS (forS (.name 3) (callI rng1 [(.v (ret (.int 6)))]) (b_law_1 cCalmError cNoText cNoName cTwice cTooMany cNoStep cNoLock))
    (retS (vRV (ret (.bl true)))))))
def mf_law (cCalmError cNoText cNoName cTwice cTooMany cNoStep cNoLock : Addr) : M RV := fnM 8 [0] (b_law cCalmError cNoText cNoName cTwice cTooMany cNoStep cNoLock)
theorem sc_law : FnScope ["_law_script", "_law_number", "_law_name", "_law_kind", "_law_made_here", "_law_caught", "_law_e", "_law_k"] ["_law_script"] (defScope s_law) := ⟨rfl, rfl, rfl, by decide +kernel, rfl, by decide +kernel, by decide +kernel⟩
theorem ok_law {fa : Addr} {fd : FuncData} (T : Txt K mg cCalmError cNoText cNoName cTwice cTooMany cNoStep cNoLock) (F : Fun K "law" "law" s_law fa fd) (c__law_cell_at : FnD P w K mg base CX0 (ecL [("NoLock", (cNoLock, "step")), ("NoText", (cNoText, "row")), ("NoName", (cNoName, "name")), ("Twice", (cTwice, "name")), ("TooMany", (cTooMany, "most")), ("NoStep", (cNoStep, "place"))]) 1 "_law_cell_at" 2 (mf__law_cell_at cCalmError cNoText cNoName cTwice cTooMany cNoStep cNoLock)) (c__law_kinds : FnD P w K mg base CX0 (ecL [("NoLock", (cNoLock, "step")), ("NoText", (cNoText, "row")), ("NoName", (cNoName, "name")), ("Twice", (cTwice, "name")), ("TooMany", (cTooMany, "most")), ("NoStep", (cNoStep, "place"))]) 1 "_law_kinds" 1 (mf__law_kinds cCalmError cNoText cNoName cTwice cTooMany cNoStep cNoLock)) (c__law_made : FnD P w K mg base CX0 (ecL [("NoLock", (cNoLock, "step")), ("NoText", (cNoText, "row")), ("NoName", (cNoName, "name")), ("Twice", (cTwice, "name")), ("TooMany", (cTooMany, "most")), ("NoStep", (cNoStep, "place"))]) 3 "_law_made" 3 (mf__law_made cCalmError cNoText cNoName cTwice cTooMany cNoStep cNoLock)) (c__law_raised : FnD P w K mg base (L2.CX P w) (ecL [("NoLock", (cNoLock, "step")), ("NoText", (cNoText, "row")), ("NoName", (cNoName, "name")), ("Twice", (cTwice, "name")), ("TooMany", (cTooMany, "most")), ("NoStep", (cNoStep, "place"))]) 3 "_law_raised" 3 (mf__law_raised cCalmError cNoText cNoName cTwice cTooMany cNoStep cNoLock)) : FnOk P w K mg base (L2.CX P w) 4 fa fd ["_law_script"] (fun vs H Q E => vs.length = 1 ∧ (Bounded K H → spD K (ecL [("NoLock", (cNoLock, "step")), ("NoText", (cNoText, "row")), ("NoName", (cNoName, "name")), ("Twice", (cTwice, "name")), ("TooMany", (cTooMany, "most")), ("NoStep", (cNoStep, "place"))]) (mf_law cCalmError cNoText cNoName cTwice cTooMany cNoStep cNoLock) vs H Q E)) :=
  fnD_ok (N := ["_law_script", "_law_number", "_law_name", "_law_kind", "_law_made_here", "_law_caught", "_law_e", "_law_k"]) (ow := [0]) F sc_law (by decide) fun cdv A outer s H E hr => by
  have hu := hu_of hr
  have hu64 := hu64_of hr
  have hN := sc_law.nd
  exact (with_tk (fun tk => (dss_cons (ds_set (i := 1) (DV.dr (dv_bin op_modD (do_v (DR.dv (dr_fn c__law_cell_at rfl (hr.mono (by decide)) rfl pass0' (by decide) (das_cons (dg_slot (pv 0)) (das_cons (dg_v dv_int) das_nil rfl) rfl) (by decide) rfl rfl))) (do_v (dv_bin op_powD (do_v dv_int) (do_v dv_int))))) hN rfl (by first | exact Or.inl rfl | exact Or.inr rfl) (by decide) rfl (Or.inl rfl))
    (dss_cons (ds_set (i := 2) (dr_slice (do_v dv_str) (dp_some (dv_bin op_modD (do_v (DR.dv (dr_fn c__law_cell_at rfl (hr.mono (by decide)) rfl pass0' (by decide) (das_cons (dg_slot (pv 0)) (das_cons (dg_v dv_int) das_nil rfl) rfl) (by decide) rfl rfl))) (do_v dv_int))) dp_none) hN rfl (by first | exact Or.inl rfl | exact Or.inr rfl) (by decide) rfl (Or.inl rfl))
    (dss_cons (ds_for hpo_of rfl (by intro _; rfl) (di_range1 rfl T.b_range (dos_cons (do_v dv_int) dos_nil rfl) rfl) (dtg_name (i := 3) hN rfl (by first | exact Or.inl rfl | exact Or.inr rfl) (Or.inl rfl)) (dss_cons (ds_set (i := 4) (dr_fn c__law_made rfl (hr.mono (by decide)) rfl pass0' (by decide) (das_cons (dg_slot (pv 3)) (das_cons (dg_slot (pv 1)) (das_cons (dg_slot (pv 2)) das_nil rfl) rfl) rfl) (by decide) rfl rfl) hN rfl (by first | exact Or.inl rfl | exact Or.inr rfl) (by decide) rfl (Or.inl rfl))
    (dss_cons (ds_if (DW.dt (dw_or (dt_not (dt_truth (do_v (dv_isX (dv_ix hu (do_slot (pv 4)) (do_v dv_int) (fun _ _ => rfl)) rfl T.b_isinstance (pe_clsName (by rfl) T.n_CalmError (by decide)) (fun u r => r) (fun x C f b h hb => by
    have h := lookup_mem h
    simp only [List.mem_cons, List.not_mem_nil, or_false, Prod.mk.injEq] at h
    rcases h with h | h | h | h | h | h
    · obtain ⟨rfl, rfl, rfl⟩ := h
      rw [show ([("NoLock", true), ("NoText", true), ("NoName", true), ("Twice", true), ("TooMany", true), ("NoStep", true)] : List (Str × Bool)).lookup ("NoLock" : Str) = some true from by decide +kernel] at hb
      cases hb
      exact T.k_NoLock_CalmError
    · obtain ⟨rfl, rfl, rfl⟩ := h
      rw [show ([("NoLock", true), ("NoText", true), ("NoName", true), ("Twice", true), ("TooMany", true), ("NoStep", true)] : List (Str × Bool)).lookup ("NoText" : Str) = some true from by decide +kernel] at hb
      cases hb
      exact T.k_NoText_CalmError
    · obtain ⟨rfl, rfl, rfl⟩ := h
      rw [show ([("NoLock", true), ("NoText", true), ("NoName", true), ("Twice", true), ("TooMany", true), ("NoStep", true)] : List (Str × Bool)).lookup ("NoName" : Str) = some true from by decide +kernel] at hb
      cases hb
      exact T.k_NoName_CalmError
    · obtain ⟨rfl, rfl, rfl⟩ := h
      rw [show ([("NoLock", true), ("NoText", true), ("NoName", true), ("Twice", true), ("TooMany", true), ("NoStep", true)] : List (Str × Bool)).lookup ("Twice" : Str) = some true from by decide +kernel] at hb
      cases hb
      exact T.k_Twice_CalmError
    · obtain ⟨rfl, rfl, rfl⟩ := h
      rw [show ([("NoLock", true), ("NoText", true), ("NoName", true), ("Twice", true), ("TooMany", true), ("NoStep", true)] : List (Str × Bool)).lookup ("TooMany" : Str) = some true from by decide +kernel] at hb
      cases hb
      exact T.k_TooMany_CalmError
    · obtain ⟨rfl, rfl, rfl⟩ := h
      rw [show ([("NoLock", true), ("NoText", true), ("NoName", true), ("Twice", true), ("TooMany", true), ("NoStep", true)] : List (Str × Bool)).lookup ("NoStep" : Str) = some true from by decide +kernel] at hb
      cases hb
      exact T.k_NoStep_CalmError) rfl rfl rfl)) (by intro _; rfl))) (dw_or (dt_not (dt_truth (do_v (dv_isX (dv_ix hu (do_slot (pv 4)) (do_v dv_int) (fun _ _ => rfl)) rfl T.b_isinstance (pe_tyName (T := "ValueError") (by rfl) T.b_ValueError (by decide +kernel) (by decide) (by decide)) (fun u r => r) (fun x C f b h hb => by
    have h := lookup_mem h
    simp only [List.mem_cons, List.not_mem_nil, or_false, Prod.mk.injEq] at h
    rcases h with h | h | h | h | h | h
    · obtain ⟨rfl, rfl, rfl⟩ := h
      rw [show ([("NoLock", true), ("NoText", true), ("NoName", true), ("Twice", true), ("TooMany", true), ("NoStep", true)] : List (Str × Bool)).lookup ("NoLock" : Str) = some true from by decide +kernel] at hb
      cases hb
      exact T.k_NoLock_ValueError
    · obtain ⟨rfl, rfl, rfl⟩ := h
      rw [show ([("NoLock", true), ("NoText", true), ("NoName", true), ("Twice", true), ("TooMany", true), ("NoStep", true)] : List (Str × Bool)).lookup ("NoText" : Str) = some true from by decide +kernel] at hb
      cases hb
      exact T.k_NoText_ValueError
    · obtain ⟨rfl, rfl, rfl⟩ := h
      rw [show ([("NoLock", true), ("NoText", true), ("NoName", true), ("Twice", true), ("TooMany", true), ("NoStep", true)] : List (Str × Bool)).lookup ("NoName" : Str) = some true from by decide +kernel] at hb
      cases hb
      exact T.k_NoName_ValueError
    · obtain ⟨rfl, rfl, rfl⟩ := h
      rw [show ([("NoLock", true), ("NoText", true), ("NoName", true), ("Twice", true), ("TooMany", true), ("NoStep", true)] : List (Str × Bool)).lookup ("Twice" : Str) = some true from by decide +kernel] at hb
      cases hb
      exact T.k_Twice_ValueError
    · obtain ⟨rfl, rfl, rfl⟩ := h
      rw [show ([("NoLock", true), ("NoText", true), ("NoName", true), ("Twice", true), ("TooMany", true), ("NoStep", true)] : List (Str × Bool)).lookup ("TooMany" : Str) = some true from by decide +kernel] at hb
      cases hb
      exact T.k_TooMany_ValueError
    · obtain ⟨rfl, rfl, rfl⟩ := h
      rw [show ([("NoLock", true), ("NoText", true), ("NoName", true), ("Twice", true), ("TooMany", true), ("NoStep", true)] : List (Str × Bool)).lookup ("NoStep" : Str) = some true from by decide +kernel] at hb
      cases hb
      exact T.k_NoStep_ValueError) rfl rfl rfl)) (by intro _; rfl))) (dw_or1 (dt_cmp (op_neDD hu64) (do_v (dv_ix hu (do_slot (pv 4)) (do_v dv_int) (fun _ _ => rfl))) (do_v (dv_ix hu (do_slot (pv 4)) (do_v dv_int) (fun _ _ => rfl))) (nomark _)))))) (dss_one (ds_ret (DV.dr dv_bl))) dss_nil)
    (dss_cons (ds_if (dt_cmp (op_neDD hu64) (do_v (DR.dv (dr_fn c__law_kinds rfl (hr.mono (by decide)) rfl pass0' (by decide) (das_cons (dg_v (dv_ix hu (do_slot (pv 4)) (do_v dv_int) (fun _ _ => rfl))) das_nil rfl) (by decide) rfl rfl))) (do_v (DR.dv (dr_lc (own := [("_law_k", 7)]) rfl hN (di_range1 rfl T.b_range (dos_cons (do_v dv_int) dos_nil rfl) rfl) (by first | (show blkC ["_law_script", "_law_number", "_law_name", "_law_kind", "_law_made_here", "_law_caught", "_law_e", "_law_k"] (defScope s_law) _ _ = true; decide +kernel) | rfl) (by decide) (fun _ _ _ _ _ => (dtg_name (i := 7) hN rfl (by first | exact Or.inl rfl | exact Or.inr rfl) (by first | exact Or.inl rfl | exact Or.inr rfl))) (fun _ _ _ _ _ => dts_nil) (fun _ _ _ _ _ => (dv_cmp (op_eqDD hu64) (do_slot (pv 7)) (do_slot (pv 3)) (nomark _))) (by intro _; rfl)))) (nomark _)) (dss_one (ds_ret (DV.dr dv_bl))) dss_nil)
    (dss_cons (ds_set (i := 5) (DV.dr dv_non) hN rfl (by first | exact Or.inl rfl | exact Or.inr rfl) (by decide) rfl (Or.inl rfl))
    (dss_cons (ds_tryK rfl rfl rfl hN tk (fun W pn xe tk _ => (dss_one (ds_expr (DR.dv (dr_fn c__law_raised rfl (hr.mono (by decide)) rfl (fun σ => passAt tk σ) (by decide) (das_cons (dg_slot (pv 3)) (das_cons (dg_slot (pv 1)) (das_cons (dg_slot (pv 2)) das_nil rfl) rfl) rfl) (by decide) rfl rfl)) rfl))) (test_one ⟨rfl, by decide, .inl T.n_CalmError⟩) (fun x C f h => by
    have h := lookup_mem h
    simp only [List.mem_cons, List.not_mem_nil, or_false, Prod.mk.injEq] at h
    rcases h with h | h | h | h | h | h
    · obtain ⟨rfl, rfl, rfl⟩ := h
      exact (exm1 T.m_NoLock_CalmError).trans rfl
    · obtain ⟨rfl, rfl, rfl⟩ := h
      exact (exm1 T.m_NoText_CalmError).trans rfl
    · obtain ⟨rfl, rfl, rfl⟩ := h
      exact (exm1 T.m_NoName_CalmError).trans rfl
    · obtain ⟨rfl, rfl, rfl⟩ := h
      exact (exm1 T.m_Twice_CalmError).trans rfl
    · obtain ⟨rfl, rfl, rfl⟩ := h
      exact (exm1 T.m_TooMany_CalmError).trans rfl
    · obtain ⟨rfl, rfl, rfl⟩ := h
      exact (exm1 T.m_NoStep_CalmError).trans rfl) (fun x C f h => by
    have h := lookup_mem h
    simp only [List.mem_cons, List.not_mem_nil, or_false, Prod.mk.injEq] at h
    rcases h with h | h | h | h | h | h
    · obtain ⟨rfl, rfl, rfl⟩ := h
      exact T.e_NoLock
    · obtain ⟨rfl, rfl, rfl⟩ := h
      exact T.e_NoText
    · obtain ⟨rfl, rfl, rfl⟩ := h
      exact T.e_NoName
    · obtain ⟨rfl, rfl, rfl⟩ := h
      exact T.e_Twice
    · obtain ⟨rfl, rfl, rfl⟩ := h
      exact T.e_TooMany
    · obtain ⟨rfl, rfl, rfl⟩ := h
      exact T.e_NoStep) (by decide) (by decide) (by decide) rfl rfl rfl (by first | exact Or.inl rfl | exact Or.inr rfl) (by first | exact Or.inl rfl | exact Or.inr (Or.inl rfl) | exact Or.inr (Or.inr rfl)) (by decide) (by decide) rfl (Or.inl rfl))
    (dss_one (ds_if (dt_not (dt_truth (do_v (dv_ix hu (do_v (DR.dv (dr_fn c__law_kinds rfl (hr.mono (by decide)) rfl pass0' (by decide) (das_cons (dg_slot (pv 5)) das_nil rfl) (by decide) rfl rfl))) (do_slot (pv 3)) (fun _ _ => rfl))) (by intro _; rfl))) (dss_one (ds_ret (DV.dr dv_bl))) dss_nil))))))) (by decide))
    (dss_one (ds_ret (DV.dr dv_bl))))))) (takes_of rfl rfl rfl rfl))
end
theorem all_mk {l : PySem.W.OpenLaw} {w : World} {K : PySem.W.Frag} {mg : Str → Option Value} {fa : Addr} {h : Heap} (X : K.In h) (G : h.Ns mainGlobals mg) (hfa : mg "law" = some (.ref fa)) {f0 : Addr} {od0 an0 : Option Addr} {sl0 : Array (Option Value)} {oc0 kV0 dc0 pm0 cd0 ct0 : Value} {f1 : Addr} {od1 an1 : Option Addr} {sl1 : Array (Option Value)} {oc1 kV1 dc1 pm1 cd1 ct1 : Value} {f2 : Addr} {od2 an2 : Option Addr} {sl2 : Array (Option Value)} {oc2 kV2 dc2 pm2 cd2 ct2 : Value} {f3 : Addr} {od3 an3 : Option Addr} {sl3 : Array (Option Value)} {oc3 kV3 dc3 pm3 cd3 ct3 : Value} {f4 : Addr} {od4 an4 : Option Addr} {sl4 : Array (Option Value)} {oc4 kV4 dc4 pm4 cd4 ct4 : Value}  {cCalmError cNoText cNoName cTwice cTooMany cNoStep cNoLock : Addr} {nm_NoLock q_NoLock : Str} {N_NoLock : Addr} {bs_NoLock : List Value} {sn_NoLock : List Str} {sub_NoLock : List Value} {ab_NoLock : Bool} {col_NoLock : Option Bool} {dd_NoLock : Option Addr} {m0_NoLock m1_NoLock m2_NoLock m3_NoLock m5_NoLock : Option Value} {fi_NoLock : Addr} {odi_NoLock ani_NoLock : Option Addr} {sli_NoLock : Array (Option Value)} {oci_NoLock kVi_NoLock dci_NoLock pmi_NoLock cdi_NoLock cti_NoLock : Value} {nm_NoText q_NoText : Str} {N_NoText : Addr} {bs_NoText : List Value} {sn_NoText : List Str} {sub_NoText : List Value} {ab_NoText : Bool} {col_NoText : Option Bool} {dd_NoText : Option Addr} {m0_NoText m1_NoText m2_NoText m3_NoText m5_NoText : Option Value} {fi_NoText : Addr} {odi_NoText ani_NoText : Option Addr} {sli_NoText : Array (Option Value)} {oci_NoText kVi_NoText dci_NoText pmi_NoText cdi_NoText cti_NoText : Value} {nm_NoName q_NoName : Str} {N_NoName : Addr} {bs_NoName : List Value} {sn_NoName : List Str} {sub_NoName : List Value} {ab_NoName : Bool} {col_NoName : Option Bool} {dd_NoName : Option Addr} {m0_NoName m1_NoName m2_NoName m3_NoName m5_NoName : Option Value} {fi_NoName : Addr} {odi_NoName ani_NoName : Option Addr} {sli_NoName : Array (Option Value)} {oci_NoName kVi_NoName dci_NoName pmi_NoName cdi_NoName cti_NoName : Value} {nm_Twice q_Twice : Str} {N_Twice : Addr} {bs_Twice : List Value} {sn_Twice : List Str} {sub_Twice : List Value} {ab_Twice : Bool} {col_Twice : Option Bool} {dd_Twice : Option Addr} {m0_Twice m1_Twice m2_Twice m3_Twice m5_Twice : Option Value} {fi_Twice : Addr} {odi_Twice ani_Twice : Option Addr} {sli_Twice : Array (Option Value)} {oci_Twice kVi_Twice dci_Twice pmi_Twice cdi_Twice cti_Twice : Value} {nm_TooMany q_TooMany : Str} {N_TooMany : Addr} {bs_TooMany : List Value} {sn_TooMany : List Str} {sub_TooMany : List Value} {ab_TooMany : Bool} {col_TooMany : Option Bool} {dd_TooMany : Option Addr} {m0_TooMany m1_TooMany m2_TooMany m3_TooMany m5_TooMany : Option Value} {fi_TooMany : Addr} {odi_TooMany ani_TooMany : Option Addr} {sli_TooMany : Array (Option Value)} {oci_TooMany kVi_TooMany dci_TooMany pmi_TooMany cdi_TooMany cti_TooMany : Value} {nm_NoStep q_NoStep : Str} {N_NoStep : Addr} {bs_NoStep : List Value} {sn_NoStep : List Str} {sub_NoStep : List Value} {ab_NoStep : Bool} {col_NoStep : Option Bool} {dd_NoStep : Option Addr} {m0_NoStep m1_NoStep m2_NoStep m3_NoStep m5_NoStep : Option Value} {fi_NoStep : Addr} {odi_NoStep ani_NoStep : Option Addr} {sli_NoStep : Array (Option Value)} {oci_NoStep kVi_NoStep dci_NoStep pmi_NoStep cdi_NoStep cti_NoStep : Value}
    (a0 : PySem.W.nsIn K mainGlobals "_law_cell_at" = some (some (.ref f0))) (l0 : K.lookup f0 = some ⟨oc0, od0, .func (PySem.W.fnOf "_law_cell_at" "_law_cell_at" (defArgs s__law_cell_at) (defBody s__law_cell_at) (defScope s__law_cell_at) .none kV0 dc0 pm0 an0 cd0 ct0), sl0⟩) (e0 : PySem.W.codeIn K cd0 "_law_cell_at" = true) (k0 : PySem.W.keepIn K (.ref f0) = true)
    (a1 : PySem.W.nsIn K mainGlobals "_law_kinds" = some (some (.ref f1))) (l1 : K.lookup f1 = some ⟨oc1, od1, .func (PySem.W.fnOf "_law_kinds" "_law_kinds" (defArgs s__law_kinds) (defBody s__law_kinds) (defScope s__law_kinds) .none kV1 dc1 pm1 an1 cd1 ct1), sl1⟩) (e1 : PySem.W.codeIn K cd1 "_law_kinds" = true) (k1 : PySem.W.keepIn K (.ref f1) = true)
    (a2 : PySem.W.nsIn K mainGlobals "_law_made" = some (some (.ref f2))) (l2 : K.lookup f2 = some ⟨oc2, od2, .func (PySem.W.fnOf "_law_made" "_law_made" (defArgs s__law_made) (defBody s__law_made) (defScope s__law_made) .none kV2 dc2 pm2 an2 cd2 ct2), sl2⟩) (e2 : PySem.W.codeIn K cd2 "_law_made" = true) (k2 : PySem.W.keepIn K (.ref f2) = true)
    (a3 : PySem.W.nsIn K mainGlobals "_law_raised" = some (some (.ref f3))) (l3 : K.lookup f3 = some ⟨oc3, od3, .func (PySem.W.fnOf "_law_raised" "_law_raised" (defArgs s__law_raised) (defBody s__law_raised) (defScope s__law_raised) .none kV3 dc3 pm3 an3 cd3 ct3), sl3⟩) (e3 : PySem.W.codeIn K cd3 "_law_raised" = true) (k3 : PySem.W.keepIn K (.ref f3) = true)
    (a4 : PySem.W.nsIn K mainGlobals "law" = some (some (.ref f4))) (l4 : K.lookup f4 = some ⟨oc4, od4, .func (PySem.W.fnOf "law" "law" (defArgs s_law) (defBody s_law) (defScope s_law) .none kV4 dc4 pm4 an4 cd4 ct4), sl4⟩) (e4 : PySem.W.codeIn K cd4 "law" = true) (k4 : PySem.W.keepIn K (.ref f4) = true)
    (nC_CalmError : PySem.W.nsIn K mainGlobals "CalmError" = some (some (.ref cCalmError)))
    (nC_NoLock : PySem.W.nsIn K mainGlobals "NoLock" = some (some (.ref cNoLock)))
    (nC_NoName : PySem.W.nsIn K mainGlobals "NoName" = some (some (.ref cNoName)))
    (nC_NoStep : PySem.W.nsIn K mainGlobals "NoStep" = some (some (.ref cNoStep)))
    (nC_NoText : PySem.W.nsIn K mainGlobals "NoText" = some (some (.ref cNoText)))
    (nC_TooMany : PySem.W.nsIn K mainGlobals "TooMany" = some (some (.ref cTooMany)))
    (nC_Twice : PySem.W.nsIn K mainGlobals "Twice" = some (some (.ref cTwice)))
    (xL_NoLock : K.lookup cNoLock = some (excClassObj nm_NoLock q_NoLock cNoLock N_NoLock bs_NoLock [.ref cCalmError, .type "ValueError", .type "Exception", .type "BaseException", .type "object"] true sn_NoLock sub_NoLock ab_NoLock col_NoLock dd_NoLock m0_NoLock m1_NoLock m2_NoLock m3_NoLock m5_NoLock "ValueError.__new__"))
    (sa_NoLock : PySem.W.findIn K (.ref cNoLock) "__setattr__" = some (some (.builtin "object.__setattr__")))
    (ga_NoLock : PySem.W.findIn K (.ref cNoLock) "__getattribute__" = some (some (.builtin "BaseException.__getattribute__")))
    (gg_NoLock : PySem.W.findIn K (.ref cNoLock) "__getattr__" = some none)
    (no_NoLock : PySem.W.findIn K (.ref cNoLock) "step" = some none)
    (ha_NoLock : PySem.W.findIn K (.ref cNoLock) "__class__" = some (some (.builtin "object.__class__")))
    (iC_NoLock : PySem.W.findIn K (.ref cNoLock) "__init__" = some (some (.ref fi_NoLock)))
    (kC_NoLock : PySem.W.keepIn K (.ref cNoLock) = true)
    (eC_NoLock : PySem.W.subIn K (.ref cNoLock) (.type "BaseException") = some true)
    (tC_NoLock : PySem.W.typeIn K (.ref cNoLock) = some (.type "type"))
    (hC_NoLock : PySem.W.hasDictIn K cNoLock = true)
    (mC_NoLock : PySem.W.mroIn K cNoLock (.type "object") = some true)
    (tI_NoLock : PySem.W.typeIn K (.ref fi_NoLock) = some (.type "function"))
    (lI_NoLock : K.lookup fi_NoLock = some ⟨oci_NoLock, odi_NoLock, .func (PySem.W.fnOf "__init__" "NoLock.__init__" (defArgs si_NoLock) (defBody si_NoLock) (defScope si_NoLock) .none kVi_NoLock dci_NoLock pmi_NoLock ani_NoLock cdi_NoLock cti_NoLock), sli_NoLock⟩)
    (cI_NoLock : PySem.W.codeIn K cdi_NoLock "NoLock.__init__" = true)
    (kI_NoLock : PySem.W.keepIn K (.ref fi_NoLock) = true)
    (xL_NoText : K.lookup cNoText = some (excClassObj nm_NoText q_NoText cNoText N_NoText bs_NoText [.ref cCalmError, .type "ValueError", .type "Exception", .type "BaseException", .type "object"] true sn_NoText sub_NoText ab_NoText col_NoText dd_NoText m0_NoText m1_NoText m2_NoText m3_NoText m5_NoText "ValueError.__new__"))
    (sa_NoText : PySem.W.findIn K (.ref cNoText) "__setattr__" = some (some (.builtin "object.__setattr__")))
    (ga_NoText : PySem.W.findIn K (.ref cNoText) "__getattribute__" = some (some (.builtin "BaseException.__getattribute__")))
    (gg_NoText : PySem.W.findIn K (.ref cNoText) "__getattr__" = some none)
    (no_NoText : PySem.W.findIn K (.ref cNoText) "row" = some none)
    (ha_NoText : PySem.W.findIn K (.ref cNoText) "__class__" = some (some (.builtin "object.__class__")))
    (iC_NoText : PySem.W.findIn K (.ref cNoText) "__init__" = some (some (.ref fi_NoText)))
    (kC_NoText : PySem.W.keepIn K (.ref cNoText) = true)
    (eC_NoText : PySem.W.subIn K (.ref cNoText) (.type "BaseException") = some true)
    (tC_NoText : PySem.W.typeIn K (.ref cNoText) = some (.type "type"))
    (hC_NoText : PySem.W.hasDictIn K cNoText = true)
    (mC_NoText : PySem.W.mroIn K cNoText (.type "object") = some true)
    (tI_NoText : PySem.W.typeIn K (.ref fi_NoText) = some (.type "function"))
    (lI_NoText : K.lookup fi_NoText = some ⟨oci_NoText, odi_NoText, .func (PySem.W.fnOf "__init__" "NoText.__init__" (defArgs si_NoText) (defBody si_NoText) (defScope si_NoText) .none kVi_NoText dci_NoText pmi_NoText ani_NoText cdi_NoText cti_NoText), sli_NoText⟩)
    (cI_NoText : PySem.W.codeIn K cdi_NoText "NoText.__init__" = true)
    (kI_NoText : PySem.W.keepIn K (.ref fi_NoText) = true)
    (xL_NoName : K.lookup cNoName = some (excClassObj nm_NoName q_NoName cNoName N_NoName bs_NoName [.ref cCalmError, .type "ValueError", .type "Exception", .type "BaseException", .type "object"] true sn_NoName sub_NoName ab_NoName col_NoName dd_NoName m0_NoName m1_NoName m2_NoName m3_NoName m5_NoName "ValueError.__new__"))
    (sa_NoName : PySem.W.findIn K (.ref cNoName) "__setattr__" = some (some (.builtin "object.__setattr__")))
    (ga_NoName : PySem.W.findIn K (.ref cNoName) "__getattribute__" = some (some (.builtin "BaseException.__getattribute__")))
    (gg_NoName : PySem.W.findIn K (.ref cNoName) "__getattr__" = some none)
    (no_NoName : PySem.W.findIn K (.ref cNoName) "name" = some none)
    (ha_NoName : PySem.W.findIn K (.ref cNoName) "__class__" = some (some (.builtin "object.__class__")))
    (iC_NoName : PySem.W.findIn K (.ref cNoName) "__init__" = some (some (.ref fi_NoName)))
    (kC_NoName : PySem.W.keepIn K (.ref cNoName) = true)
    (eC_NoName : PySem.W.subIn K (.ref cNoName) (.type "BaseException") = some true)
    (tC_NoName : PySem.W.typeIn K (.ref cNoName) = some (.type "type"))
    (hC_NoName : PySem.W.hasDictIn K cNoName = true)
    (mC_NoName : PySem.W.mroIn K cNoName (.type "object") = some true)
    (tI_NoName : PySem.W.typeIn K (.ref fi_NoName) = some (.type "function"))
    (lI_NoName : K.lookup fi_NoName = some ⟨oci_NoName, odi_NoName, .func (PySem.W.fnOf "__init__" "NoName.__init__" (defArgs si_NoName) (defBody si_NoName) (defScope si_NoName) .none kVi_NoName dci_NoName pmi_NoName ani_NoName cdi_NoName cti_NoName), sli_NoName⟩)
    (cI_NoName : PySem.W.codeIn K cdi_NoName "NoName.__init__" = true)
    (kI_NoName : PySem.W.keepIn K (.ref fi_NoName) = true)
    (xL_Twice : K.lookup cTwice = some (excClassObj nm_Twice q_Twice cTwice N_Twice bs_Twice [.ref cCalmError, .type "ValueError", .type "Exception", .type "BaseException", .type "object"] true sn_Twice sub_Twice ab_Twice col_Twice dd_Twice m0_Twice m1_Twice m2_Twice m3_Twice m5_Twice "ValueError.__new__"))
    (sa_Twice : PySem.W.findIn K (.ref cTwice) "__setattr__" = some (some (.builtin "object.__setattr__")))
    (ga_Twice : PySem.W.findIn K (.ref cTwice) "__getattribute__" = some (some (.builtin "BaseException.__getattribute__")))
    (gg_Twice : PySem.W.findIn K (.ref cTwice) "__getattr__" = some none)
    (no_Twice : PySem.W.findIn K (.ref cTwice) "name" = some none)
    (ha_Twice : PySem.W.findIn K (.ref cTwice) "__class__" = some (some (.builtin "object.__class__")))
    (iC_Twice : PySem.W.findIn K (.ref cTwice) "__init__" = some (some (.ref fi_Twice)))
    (kC_Twice : PySem.W.keepIn K (.ref cTwice) = true)
    (eC_Twice : PySem.W.subIn K (.ref cTwice) (.type "BaseException") = some true)
    (tC_Twice : PySem.W.typeIn K (.ref cTwice) = some (.type "type"))
    (hC_Twice : PySem.W.hasDictIn K cTwice = true)
    (mC_Twice : PySem.W.mroIn K cTwice (.type "object") = some true)
    (tI_Twice : PySem.W.typeIn K (.ref fi_Twice) = some (.type "function"))
    (lI_Twice : K.lookup fi_Twice = some ⟨oci_Twice, odi_Twice, .func (PySem.W.fnOf "__init__" "Twice.__init__" (defArgs si_Twice) (defBody si_Twice) (defScope si_Twice) .none kVi_Twice dci_Twice pmi_Twice ani_Twice cdi_Twice cti_Twice), sli_Twice⟩)
    (cI_Twice : PySem.W.codeIn K cdi_Twice "Twice.__init__" = true)
    (kI_Twice : PySem.W.keepIn K (.ref fi_Twice) = true)
    (xL_TooMany : K.lookup cTooMany = some (excClassObj nm_TooMany q_TooMany cTooMany N_TooMany bs_TooMany [.ref cCalmError, .type "ValueError", .type "Exception", .type "BaseException", .type "object"] true sn_TooMany sub_TooMany ab_TooMany col_TooMany dd_TooMany m0_TooMany m1_TooMany m2_TooMany m3_TooMany m5_TooMany "ValueError.__new__"))
    (sa_TooMany : PySem.W.findIn K (.ref cTooMany) "__setattr__" = some (some (.builtin "object.__setattr__")))
    (ga_TooMany : PySem.W.findIn K (.ref cTooMany) "__getattribute__" = some (some (.builtin "BaseException.__getattribute__")))
    (gg_TooMany : PySem.W.findIn K (.ref cTooMany) "__getattr__" = some none)
    (no_TooMany : PySem.W.findIn K (.ref cTooMany) "most" = some none)
    (ha_TooMany : PySem.W.findIn K (.ref cTooMany) "__class__" = some (some (.builtin "object.__class__")))
    (iC_TooMany : PySem.W.findIn K (.ref cTooMany) "__init__" = some (some (.ref fi_TooMany)))
    (kC_TooMany : PySem.W.keepIn K (.ref cTooMany) = true)
    (eC_TooMany : PySem.W.subIn K (.ref cTooMany) (.type "BaseException") = some true)
    (tC_TooMany : PySem.W.typeIn K (.ref cTooMany) = some (.type "type"))
    (hC_TooMany : PySem.W.hasDictIn K cTooMany = true)
    (mC_TooMany : PySem.W.mroIn K cTooMany (.type "object") = some true)
    (tI_TooMany : PySem.W.typeIn K (.ref fi_TooMany) = some (.type "function"))
    (lI_TooMany : K.lookup fi_TooMany = some ⟨oci_TooMany, odi_TooMany, .func (PySem.W.fnOf "__init__" "TooMany.__init__" (defArgs si_TooMany) (defBody si_TooMany) (defScope si_TooMany) .none kVi_TooMany dci_TooMany pmi_TooMany ani_TooMany cdi_TooMany cti_TooMany), sli_TooMany⟩)
    (cI_TooMany : PySem.W.codeIn K cdi_TooMany "TooMany.__init__" = true)
    (kI_TooMany : PySem.W.keepIn K (.ref fi_TooMany) = true)
    (xL_NoStep : K.lookup cNoStep = some (excClassObj nm_NoStep q_NoStep cNoStep N_NoStep bs_NoStep [.ref cCalmError, .type "ValueError", .type "Exception", .type "BaseException", .type "object"] true sn_NoStep sub_NoStep ab_NoStep col_NoStep dd_NoStep m0_NoStep m1_NoStep m2_NoStep m3_NoStep m5_NoStep "ValueError.__new__"))
    (sa_NoStep : PySem.W.findIn K (.ref cNoStep) "__setattr__" = some (some (.builtin "object.__setattr__")))
    (ga_NoStep : PySem.W.findIn K (.ref cNoStep) "__getattribute__" = some (some (.builtin "BaseException.__getattribute__")))
    (gg_NoStep : PySem.W.findIn K (.ref cNoStep) "__getattr__" = some none)
    (no_NoStep : PySem.W.findIn K (.ref cNoStep) "place" = some none)
    (ha_NoStep : PySem.W.findIn K (.ref cNoStep) "__class__" = some (some (.builtin "object.__class__")))
    (iC_NoStep : PySem.W.findIn K (.ref cNoStep) "__init__" = some (some (.ref fi_NoStep)))
    (kC_NoStep : PySem.W.keepIn K (.ref cNoStep) = true)
    (eC_NoStep : PySem.W.subIn K (.ref cNoStep) (.type "BaseException") = some true)
    (tC_NoStep : PySem.W.typeIn K (.ref cNoStep) = some (.type "type"))
    (hC_NoStep : PySem.W.hasDictIn K cNoStep = true)
    (mC_NoStep : PySem.W.mroIn K cNoStep (.type "object") = some true)
    (tI_NoStep : PySem.W.typeIn K (.ref fi_NoStep) = some (.type "function"))
    (lI_NoStep : K.lookup fi_NoStep = some ⟨oci_NoStep, odi_NoStep, .func (PySem.W.fnOf "__init__" "NoStep.__init__" (defArgs si_NoStep) (defBody si_NoStep) (defScope si_NoStep) .none kVi_NoStep dci_NoStep pmi_NoStep ani_NoStep cdi_NoStep cti_NoStep), sli_NoStep⟩)
    (cI_NoStep : PySem.W.codeIn K cdi_NoStep "NoStep.__init__" = true)
    (kI_NoStep : PySem.W.keepIn K (.ref fi_NoStep) = true)
    (sp_g : PySem.W.specialIn K (.builtin "object.__class__") "__get__" = some (some (.builtin "getset_descriptor.__get__")))
    (sp_t : PySem.W.takesIn K (.builtin "object.__class__") = some true)
    (eC_CalmError : PySem.W.subIn K (.ref cCalmError) (.type "BaseException") = some true)
    (tC_CalmError : PySem.W.typeIn K (.ref cCalmError) = some (.type "type"))
    (hC_CalmError : PySem.W.hasDictIn K cCalmError = true)
    (y_NoLock_bool : PySem.W.subIn K (.ref cNoLock) (.type "bool") = some false)
    (y_NoLock_int : PySem.W.subIn K (.ref cNoLock) (.type "int") = some false)
    (y_NoLock_str : PySem.W.subIn K (.ref cNoLock) (.type "str") = some false)
    (y_NoLock_tuple : PySem.W.subIn K (.ref cNoLock) (.type "tuple") = some false)
    (y_NoLock_list : PySem.W.subIn K (.ref cNoLock) (.type "list") = some false)
    (y_NoLock_dict : PySem.W.subIn K (.ref cNoLock) (.type "dict") = some false)
    (y_NoText_bool : PySem.W.subIn K (.ref cNoText) (.type "bool") = some false)
    (y_NoText_int : PySem.W.subIn K (.ref cNoText) (.type "int") = some false)
    (y_NoText_str : PySem.W.subIn K (.ref cNoText) (.type "str") = some false)
    (y_NoText_tuple : PySem.W.subIn K (.ref cNoText) (.type "tuple") = some false)
    (y_NoText_list : PySem.W.subIn K (.ref cNoText) (.type "list") = some false)
    (y_NoText_dict : PySem.W.subIn K (.ref cNoText) (.type "dict") = some false)
    (y_NoName_bool : PySem.W.subIn K (.ref cNoName) (.type "bool") = some false)
    (y_NoName_int : PySem.W.subIn K (.ref cNoName) (.type "int") = some false)
    (y_NoName_str : PySem.W.subIn K (.ref cNoName) (.type "str") = some false)
    (y_NoName_tuple : PySem.W.subIn K (.ref cNoName) (.type "tuple") = some false)
    (y_NoName_list : PySem.W.subIn K (.ref cNoName) (.type "list") = some false)
    (y_NoName_dict : PySem.W.subIn K (.ref cNoName) (.type "dict") = some false)
    (y_Twice_bool : PySem.W.subIn K (.ref cTwice) (.type "bool") = some false)
    (y_Twice_int : PySem.W.subIn K (.ref cTwice) (.type "int") = some false)
    (y_Twice_str : PySem.W.subIn K (.ref cTwice) (.type "str") = some false)
    (y_Twice_tuple : PySem.W.subIn K (.ref cTwice) (.type "tuple") = some false)
    (y_Twice_list : PySem.W.subIn K (.ref cTwice) (.type "list") = some false)
    (y_Twice_dict : PySem.W.subIn K (.ref cTwice) (.type "dict") = some false)
    (y_TooMany_bool : PySem.W.subIn K (.ref cTooMany) (.type "bool") = some false)
    (y_TooMany_int : PySem.W.subIn K (.ref cTooMany) (.type "int") = some false)
    (y_TooMany_str : PySem.W.subIn K (.ref cTooMany) (.type "str") = some false)
    (y_TooMany_tuple : PySem.W.subIn K (.ref cTooMany) (.type "tuple") = some false)
    (y_TooMany_list : PySem.W.subIn K (.ref cTooMany) (.type "list") = some false)
    (y_TooMany_dict : PySem.W.subIn K (.ref cTooMany) (.type "dict") = some false)
    (y_NoStep_bool : PySem.W.subIn K (.ref cNoStep) (.type "bool") = some false)
    (y_NoStep_int : PySem.W.subIn K (.ref cNoStep) (.type "int") = some false)
    (y_NoStep_str : PySem.W.subIn K (.ref cNoStep) (.type "str") = some false)
    (y_NoStep_tuple : PySem.W.subIn K (.ref cNoStep) (.type "tuple") = some false)
    (y_NoStep_list : PySem.W.subIn K (.ref cNoStep) (.type "list") = some false)
    (y_NoStep_dict : PySem.W.subIn K (.ref cNoStep) (.type "dict") = some false)
    (s_NoLock_CalmError : PySem.W.subIn K (.ref cNoLock) (.ref cCalmError) = some true)
    (s_NoLock_TooMany : PySem.W.subIn K (.ref cNoLock) (.ref cTooMany) = some false)
    (s_NoLock_Twice : PySem.W.subIn K (.ref cNoLock) (.ref cTwice) = some false)
    (s_NoLock_NoName : PySem.W.subIn K (.ref cNoLock) (.ref cNoName) = some false)
    (s_NoLock_NoText : PySem.W.subIn K (.ref cNoLock) (.ref cNoText) = some false)
    (s_NoLock_NoLock : PySem.W.subIn K (.ref cNoLock) (.ref cNoLock) = some true)
    (s_NoLock_NoStep : PySem.W.subIn K (.ref cNoLock) (.ref cNoStep) = some false)
    (s_NoText_CalmError : PySem.W.subIn K (.ref cNoText) (.ref cCalmError) = some true)
    (s_NoText_TooMany : PySem.W.subIn K (.ref cNoText) (.ref cTooMany) = some false)
    (s_NoText_Twice : PySem.W.subIn K (.ref cNoText) (.ref cTwice) = some false)
    (s_NoText_NoName : PySem.W.subIn K (.ref cNoText) (.ref cNoName) = some false)
    (s_NoText_NoText : PySem.W.subIn K (.ref cNoText) (.ref cNoText) = some true)
    (s_NoText_NoLock : PySem.W.subIn K (.ref cNoText) (.ref cNoLock) = some false)
    (s_NoText_NoStep : PySem.W.subIn K (.ref cNoText) (.ref cNoStep) = some false)
    (s_NoName_CalmError : PySem.W.subIn K (.ref cNoName) (.ref cCalmError) = some true)
    (s_NoName_TooMany : PySem.W.subIn K (.ref cNoName) (.ref cTooMany) = some false)
    (s_NoName_Twice : PySem.W.subIn K (.ref cNoName) (.ref cTwice) = some false)
    (s_NoName_NoName : PySem.W.subIn K (.ref cNoName) (.ref cNoName) = some true)
    (s_NoName_NoText : PySem.W.subIn K (.ref cNoName) (.ref cNoText) = some false)
    (s_NoName_NoLock : PySem.W.subIn K (.ref cNoName) (.ref cNoLock) = some false)
    (s_NoName_NoStep : PySem.W.subIn K (.ref cNoName) (.ref cNoStep) = some false)
    (s_Twice_CalmError : PySem.W.subIn K (.ref cTwice) (.ref cCalmError) = some true)
    (s_Twice_TooMany : PySem.W.subIn K (.ref cTwice) (.ref cTooMany) = some false)
    (s_Twice_Twice : PySem.W.subIn K (.ref cTwice) (.ref cTwice) = some true)
    (s_Twice_NoName : PySem.W.subIn K (.ref cTwice) (.ref cNoName) = some false)
    (s_Twice_NoText : PySem.W.subIn K (.ref cTwice) (.ref cNoText) = some false)
    (s_Twice_NoLock : PySem.W.subIn K (.ref cTwice) (.ref cNoLock) = some false)
    (s_Twice_NoStep : PySem.W.subIn K (.ref cTwice) (.ref cNoStep) = some false)
    (s_TooMany_CalmError : PySem.W.subIn K (.ref cTooMany) (.ref cCalmError) = some true)
    (s_TooMany_TooMany : PySem.W.subIn K (.ref cTooMany) (.ref cTooMany) = some true)
    (s_TooMany_Twice : PySem.W.subIn K (.ref cTooMany) (.ref cTwice) = some false)
    (s_TooMany_NoName : PySem.W.subIn K (.ref cTooMany) (.ref cNoName) = some false)
    (s_TooMany_NoText : PySem.W.subIn K (.ref cTooMany) (.ref cNoText) = some false)
    (s_TooMany_NoLock : PySem.W.subIn K (.ref cTooMany) (.ref cNoLock) = some false)
    (s_TooMany_NoStep : PySem.W.subIn K (.ref cTooMany) (.ref cNoStep) = some false)
    (s_NoStep_CalmError : PySem.W.subIn K (.ref cNoStep) (.ref cCalmError) = some true)
    (s_NoStep_TooMany : PySem.W.subIn K (.ref cNoStep) (.ref cTooMany) = some false)
    (s_NoStep_Twice : PySem.W.subIn K (.ref cNoStep) (.ref cTwice) = some false)
    (s_NoStep_NoName : PySem.W.subIn K (.ref cNoStep) (.ref cNoName) = some false)
    (s_NoStep_NoText : PySem.W.subIn K (.ref cNoStep) (.ref cNoText) = some false)
    (s_NoStep_NoLock : PySem.W.subIn K (.ref cNoStep) (.ref cNoLock) = some false)
    (s_NoStep_NoStep : PySem.W.subIn K (.ref cNoStep) (.ref cNoStep) = some true)
    (s_NoLock_ValueError : PySem.W.subIn K (.ref cNoLock) (.type "ValueError") = some true)
    (s_NoText_ValueError : PySem.W.subIn K (.ref cNoText) (.type "ValueError") = some true)
    (s_NoName_ValueError : PySem.W.subIn K (.ref cNoName) (.type "ValueError") = some true)
    (s_Twice_ValueError : PySem.W.subIn K (.ref cTwice) (.type "ValueError") = some true)
    (s_TooMany_ValueError : PySem.W.subIn K (.ref cTooMany) (.type "ValueError") = some true)
    (s_NoStep_ValueError : PySem.W.subIn K (.ref cNoStep) (.type "ValueError") = some true)
    (z_ValueError : PySem.W.nsIn K mainGlobals "ValueError" = some none) (z_isinstance : PySem.W.nsIn K mainGlobals "isinstance" = some none) (z_len : PySem.W.nsIn K mainGlobals "len" = some none) (z_range : PySem.W.nsIn K mainGlobals "range" = some none) :
    ∃ fd : FuncData, (∀ (s : Shared) (v : Value), BindsTo s fd ⟨[v], []⟩ [("_law_script", v)]) ∧ ∀ base : Heap, K.In base → base.Ns mainGlobals mg → FnOk l.prog w K mg base (L2.CX l.prog w) 4 fa fd ["_law_script"] (fun vs H Q E => vs.length = 1 ∧ (Bounded K H → ∀ (cCalmError cNoText cNoName cTwice cTooMany cNoStep cNoLock : Addr) ec, spD K ec (mf_law cCalmError cNoText cNoName cTwice cTooMany cNoStep cNoLock) vs H Q E)) := by
  have ox_NoLock : L2.OexC K cNoLock := ⟨⟨_, _, _, _, _, _, _, _, _, _, _, _, _, _, _, xL_NoLock, by first | rfl | decide +kernel⟩, sa_NoLock, eC_NoLock, tC_NoLock, kC_NoLock⟩
  have FI_NoLock := fun_mk (st := si_NoLock) lI_NoLock cI_NoLock kI_NoLock
  have x_NoLock : ExF K mg "NoLock" cNoLock "step" := ⟨PySem.W.mg_of X G nC_NoLock, ox_NoLock, ⟨ga_NoLock, gg_NoLock, eC_NoLock, hC_NoLock⟩, no_NoLock, ⟨ga_NoLock, gg_NoLock, eC_NoLock, hC_NoLock, ha_NoLock, sp_g, sp_t, mC_NoLock⟩, ⟨_, _, iC_NoLock, tI_NoLock, fun P w base => ini_ok FI_NoLock sci_NoLock rfl (by first | exact Or.inl rfl | exact Or.inr (Or.inl rfl) | exact Or.inr (Or.inr rfl)) (by first | exact Or.inl rfl | exact Or.inr (Or.inl rfl) | exact Or.inr (Or.inr rfl)) (by decide) (by decide) ox_NoLock no_NoLock P w base, FI_NoLock.binds (ps := ["self", "step"]) fun _ _ _ _ _ _ us hl => match us, hl with | [_, _], _ => rfl⟩⟩
  have ox_NoText : L2.OexC K cNoText := ⟨⟨_, _, _, _, _, _, _, _, _, _, _, _, _, _, _, xL_NoText, by first | rfl | decide +kernel⟩, sa_NoText, eC_NoText, tC_NoText, kC_NoText⟩
  have FI_NoText := fun_mk (st := si_NoText) lI_NoText cI_NoText kI_NoText
  have x_NoText : ExF K mg "NoText" cNoText "row" := ⟨PySem.W.mg_of X G nC_NoText, ox_NoText, ⟨ga_NoText, gg_NoText, eC_NoText, hC_NoText⟩, no_NoText, ⟨ga_NoText, gg_NoText, eC_NoText, hC_NoText, ha_NoText, sp_g, sp_t, mC_NoText⟩, ⟨_, _, iC_NoText, tI_NoText, fun P w base => ini_ok FI_NoText sci_NoText rfl (by first | exact Or.inl rfl | exact Or.inr (Or.inl rfl) | exact Or.inr (Or.inr rfl)) (by first | exact Or.inl rfl | exact Or.inr (Or.inl rfl) | exact Or.inr (Or.inr rfl)) (by decide) (by decide) ox_NoText no_NoText P w base, FI_NoText.binds (ps := ["self", "row"]) fun _ _ _ _ _ _ us hl => match us, hl with | [_, _], _ => rfl⟩⟩
  have ox_NoName : L2.OexC K cNoName := ⟨⟨_, _, _, _, _, _, _, _, _, _, _, _, _, _, _, xL_NoName, by first | rfl | decide +kernel⟩, sa_NoName, eC_NoName, tC_NoName, kC_NoName⟩
  have FI_NoName := fun_mk (st := si_NoName) lI_NoName cI_NoName kI_NoName
  have x_NoName : ExF K mg "NoName" cNoName "name" := ⟨PySem.W.mg_of X G nC_NoName, ox_NoName, ⟨ga_NoName, gg_NoName, eC_NoName, hC_NoName⟩, no_NoName, ⟨ga_NoName, gg_NoName, eC_NoName, hC_NoName, ha_NoName, sp_g, sp_t, mC_NoName⟩, ⟨_, _, iC_NoName, tI_NoName, fun P w base => ini_ok FI_NoName sci_NoName rfl (by first | exact Or.inl rfl | exact Or.inr (Or.inl rfl) | exact Or.inr (Or.inr rfl)) (by first | exact Or.inl rfl | exact Or.inr (Or.inl rfl) | exact Or.inr (Or.inr rfl)) (by decide) (by decide) ox_NoName no_NoName P w base, FI_NoName.binds (ps := ["self", "name"]) fun _ _ _ _ _ _ us hl => match us, hl with | [_, _], _ => rfl⟩⟩
  have ox_Twice : L2.OexC K cTwice := ⟨⟨_, _, _, _, _, _, _, _, _, _, _, _, _, _, _, xL_Twice, by first | rfl | decide +kernel⟩, sa_Twice, eC_Twice, tC_Twice, kC_Twice⟩
  have FI_Twice := fun_mk (st := si_Twice) lI_Twice cI_Twice kI_Twice
  have x_Twice : ExF K mg "Twice" cTwice "name" := ⟨PySem.W.mg_of X G nC_Twice, ox_Twice, ⟨ga_Twice, gg_Twice, eC_Twice, hC_Twice⟩, no_Twice, ⟨ga_Twice, gg_Twice, eC_Twice, hC_Twice, ha_Twice, sp_g, sp_t, mC_Twice⟩, ⟨_, _, iC_Twice, tI_Twice, fun P w base => ini_ok FI_Twice sci_Twice rfl (by first | exact Or.inl rfl | exact Or.inr (Or.inl rfl) | exact Or.inr (Or.inr rfl)) (by first | exact Or.inl rfl | exact Or.inr (Or.inl rfl) | exact Or.inr (Or.inr rfl)) (by decide) (by decide) ox_Twice no_Twice P w base, FI_Twice.binds (ps := ["self", "name"]) fun _ _ _ _ _ _ us hl => match us, hl with | [_, _], _ => rfl⟩⟩
  have ox_TooMany : L2.OexC K cTooMany := ⟨⟨_, _, _, _, _, _, _, _, _, _, _, _, _, _, _, xL_TooMany, by first | rfl | decide +kernel⟩, sa_TooMany, eC_TooMany, tC_TooMany, kC_TooMany⟩
  have FI_TooMany := fun_mk (st := si_TooMany) lI_TooMany cI_TooMany kI_TooMany
  have x_TooMany : ExF K mg "TooMany" cTooMany "most" := ⟨PySem.W.mg_of X G nC_TooMany, ox_TooMany, ⟨ga_TooMany, gg_TooMany, eC_TooMany, hC_TooMany⟩, no_TooMany, ⟨ga_TooMany, gg_TooMany, eC_TooMany, hC_TooMany, ha_TooMany, sp_g, sp_t, mC_TooMany⟩, ⟨_, _, iC_TooMany, tI_TooMany, fun P w base => ini_ok FI_TooMany sci_TooMany rfl (by first | exact Or.inl rfl | exact Or.inr (Or.inl rfl) | exact Or.inr (Or.inr rfl)) (by first | exact Or.inl rfl | exact Or.inr (Or.inl rfl) | exact Or.inr (Or.inr rfl)) (by decide) (by decide) ox_TooMany no_TooMany P w base, FI_TooMany.binds (ps := ["self", "most"]) fun _ _ _ _ _ _ us hl => match us, hl with | [_, _], _ => rfl⟩⟩
  have ox_NoStep : L2.OexC K cNoStep := ⟨⟨_, _, _, _, _, _, _, _, _, _, _, _, _, _, _, xL_NoStep, by first | rfl | decide +kernel⟩, sa_NoStep, eC_NoStep, tC_NoStep, kC_NoStep⟩
  have FI_NoStep := fun_mk (st := si_NoStep) lI_NoStep cI_NoStep kI_NoStep
  have x_NoStep : ExF K mg "NoStep" cNoStep "place" := ⟨PySem.W.mg_of X G nC_NoStep, ox_NoStep, ⟨ga_NoStep, gg_NoStep, eC_NoStep, hC_NoStep⟩, no_NoStep, ⟨ga_NoStep, gg_NoStep, eC_NoStep, hC_NoStep, ha_NoStep, sp_g, sp_t, mC_NoStep⟩, ⟨_, _, iC_NoStep, tI_NoStep, fun P w base => ini_ok FI_NoStep sci_NoStep rfl (by first | exact Or.inl rfl | exact Or.inr (Or.inl rfl) | exact Or.inr (Or.inr rfl)) (by first | exact Or.inl rfl | exact Or.inr (Or.inl rfl) | exact Or.inr (Or.inr rfl)) (by decide) (by decide) ox_NoStep no_NoStep P w base, FI_NoStep.binds (ps := ["self", "place"]) fun _ _ _ _ _ _ us hl => match us, hl with | [_, _], _ => rfl⟩⟩
  have e_NoLock : ExK K cNoLock "step" := ⟨⟨ga_NoLock, gg_NoLock, eC_NoLock, hC_NoLock⟩, ⟨ga_NoLock, gg_NoLock, eC_NoLock, hC_NoLock, ha_NoLock, sp_g, sp_t, mC_NoLock⟩, no_NoLock, fun T hT => by
    simp only [List.mem_cons, List.not_mem_nil, or_false] at hT
    rcases hT with rfl | rfl | rfl | rfl | rfl | rfl
    · exact kit_ve y_NoLock_bool (by decide +kernel)
    · exact kit_ve y_NoLock_int (by decide +kernel)
    · exact kit_ve y_NoLock_str (by decide +kernel)
    · exact kit_ve y_NoLock_tuple (by decide +kernel)
    · exact kit_ve y_NoLock_list (by decide +kernel)
    · exact kit_ve y_NoLock_dict (by decide +kernel)⟩
  have e_NoText : ExK K cNoText "row" := ⟨⟨ga_NoText, gg_NoText, eC_NoText, hC_NoText⟩, ⟨ga_NoText, gg_NoText, eC_NoText, hC_NoText, ha_NoText, sp_g, sp_t, mC_NoText⟩, no_NoText, fun T hT => by
    simp only [List.mem_cons, List.not_mem_nil, or_false] at hT
    rcases hT with rfl | rfl | rfl | rfl | rfl | rfl
    · exact kit_ve y_NoText_bool (by decide +kernel)
    · exact kit_ve y_NoText_int (by decide +kernel)
    · exact kit_ve y_NoText_str (by decide +kernel)
    · exact kit_ve y_NoText_tuple (by decide +kernel)
    · exact kit_ve y_NoText_list (by decide +kernel)
    · exact kit_ve y_NoText_dict (by decide +kernel)⟩
  have e_NoName : ExK K cNoName "name" := ⟨⟨ga_NoName, gg_NoName, eC_NoName, hC_NoName⟩, ⟨ga_NoName, gg_NoName, eC_NoName, hC_NoName, ha_NoName, sp_g, sp_t, mC_NoName⟩, no_NoName, fun T hT => by
    simp only [List.mem_cons, List.not_mem_nil, or_false] at hT
    rcases hT with rfl | rfl | rfl | rfl | rfl | rfl
    · exact kit_ve y_NoName_bool (by decide +kernel)
    · exact kit_ve y_NoName_int (by decide +kernel)
    · exact kit_ve y_NoName_str (by decide +kernel)
    · exact kit_ve y_NoName_tuple (by decide +kernel)
    · exact kit_ve y_NoName_list (by decide +kernel)
    · exact kit_ve y_NoName_dict (by decide +kernel)⟩
  have e_Twice : ExK K cTwice "name" := ⟨⟨ga_Twice, gg_Twice, eC_Twice, hC_Twice⟩, ⟨ga_Twice, gg_Twice, eC_Twice, hC_Twice, ha_Twice, sp_g, sp_t, mC_Twice⟩, no_Twice, fun T hT => by
    simp only [List.mem_cons, List.not_mem_nil, or_false] at hT
    rcases hT with rfl | rfl | rfl | rfl | rfl | rfl
    · exact kit_ve y_Twice_bool (by decide +kernel)
    · exact kit_ve y_Twice_int (by decide +kernel)
    · exact kit_ve y_Twice_str (by decide +kernel)
    · exact kit_ve y_Twice_tuple (by decide +kernel)
    · exact kit_ve y_Twice_list (by decide +kernel)
    · exact kit_ve y_Twice_dict (by decide +kernel)⟩
  have e_TooMany : ExK K cTooMany "most" := ⟨⟨ga_TooMany, gg_TooMany, eC_TooMany, hC_TooMany⟩, ⟨ga_TooMany, gg_TooMany, eC_TooMany, hC_TooMany, ha_TooMany, sp_g, sp_t, mC_TooMany⟩, no_TooMany, fun T hT => by
    simp only [List.mem_cons, List.not_mem_nil, or_false] at hT
    rcases hT with rfl | rfl | rfl | rfl | rfl | rfl
    · exact kit_ve y_TooMany_bool (by decide +kernel)
    · exact kit_ve y_TooMany_int (by decide +kernel)
    · exact kit_ve y_TooMany_str (by decide +kernel)
    · exact kit_ve y_TooMany_tuple (by decide +kernel)
    · exact kit_ve y_TooMany_list (by decide +kernel)
    · exact kit_ve y_TooMany_dict (by decide +kernel)⟩
  have e_NoStep : ExK K cNoStep "place" := ⟨⟨ga_NoStep, gg_NoStep, eC_NoStep, hC_NoStep⟩, ⟨ga_NoStep, gg_NoStep, eC_NoStep, hC_NoStep, ha_NoStep, sp_g, sp_t, mC_NoStep⟩, no_NoStep, fun T hT => by
    simp only [List.mem_cons, List.not_mem_nil, or_false] at hT
    rcases hT with rfl | rfl | rfl | rfl | rfl | rfl
    · exact kit_ve y_NoStep_bool (by decide +kernel)
    · exact kit_ve y_NoStep_int (by decide +kernel)
    · exact kit_ve y_NoStep_str (by decide +kernel)
    · exact kit_ve y_NoStep_tuple (by decide +kernel)
    · exact kit_ve y_NoStep_list (by decide +kernel)
    · exact kit_ve y_NoStep_dict (by decide +kernel)⟩
  have T : Txt K mg cCalmError cNoText cNoName cTwice cTooMany cNoStep cNoLock := ⟨PySem.W.mg_none_of X G z_ValueError, PySem.W.mg_none_of X G z_isinstance, PySem.W.mg_none_of X G z_len, PySem.W.mg_none_of X G z_range, x_NoLock, x_NoText, x_NoName, x_Twice, x_TooMany, x_NoStep, e_NoLock, e_NoText, e_NoName, e_Twice, e_TooMany, e_NoStep, (PySem.W.mg_of X G nC_CalmError), (PySem.W.mg_of X G nC_NoLock), (PySem.W.mg_of X G nC_NoName), (PySem.W.mg_of X G nC_NoStep), (PySem.W.mg_of X G nC_NoText), (PySem.W.mg_of X G nC_TooMany), (PySem.W.mg_of X G nC_Twice), (PySem.W.exm_ref eC_CalmError hC_CalmError tC_CalmError s_NoLock_CalmError), (PySem.W.exm_ref eC_TooMany hC_TooMany tC_TooMany s_NoLock_TooMany), (PySem.W.exm_ref eC_Twice hC_Twice tC_Twice s_NoLock_Twice), (PySem.W.exm_ref eC_NoName hC_NoName tC_NoName s_NoLock_NoName), (PySem.W.exm_ref eC_NoText hC_NoText tC_NoText s_NoLock_NoText), (PySem.W.exm_ref eC_NoLock hC_NoLock tC_NoLock s_NoLock_NoLock), (PySem.W.exm_ref eC_NoStep hC_NoStep tC_NoStep s_NoLock_NoStep), (PySem.W.exm_ref eC_CalmError hC_CalmError tC_CalmError s_NoText_CalmError), (PySem.W.exm_ref eC_TooMany hC_TooMany tC_TooMany s_NoText_TooMany), (PySem.W.exm_ref eC_Twice hC_Twice tC_Twice s_NoText_Twice), (PySem.W.exm_ref eC_NoName hC_NoName tC_NoName s_NoText_NoName), (PySem.W.exm_ref eC_NoText hC_NoText tC_NoText s_NoText_NoText), (PySem.W.exm_ref eC_NoLock hC_NoLock tC_NoLock s_NoText_NoLock), (PySem.W.exm_ref eC_NoStep hC_NoStep tC_NoStep s_NoText_NoStep), (PySem.W.exm_ref eC_CalmError hC_CalmError tC_CalmError s_NoName_CalmError), (PySem.W.exm_ref eC_TooMany hC_TooMany tC_TooMany s_NoName_TooMany), (PySem.W.exm_ref eC_Twice hC_Twice tC_Twice s_NoName_Twice), (PySem.W.exm_ref eC_NoName hC_NoName tC_NoName s_NoName_NoName), (PySem.W.exm_ref eC_NoText hC_NoText tC_NoText s_NoName_NoText), (PySem.W.exm_ref eC_NoLock hC_NoLock tC_NoLock s_NoName_NoLock), (PySem.W.exm_ref eC_NoStep hC_NoStep tC_NoStep s_NoName_NoStep), (PySem.W.exm_ref eC_CalmError hC_CalmError tC_CalmError s_Twice_CalmError), (PySem.W.exm_ref eC_TooMany hC_TooMany tC_TooMany s_Twice_TooMany), (PySem.W.exm_ref eC_Twice hC_Twice tC_Twice s_Twice_Twice), (PySem.W.exm_ref eC_NoName hC_NoName tC_NoName s_Twice_NoName), (PySem.W.exm_ref eC_NoText hC_NoText tC_NoText s_Twice_NoText), (PySem.W.exm_ref eC_NoLock hC_NoLock tC_NoLock s_Twice_NoLock), (PySem.W.exm_ref eC_NoStep hC_NoStep tC_NoStep s_Twice_NoStep), (PySem.W.exm_ref eC_CalmError hC_CalmError tC_CalmError s_TooMany_CalmError), (PySem.W.exm_ref eC_TooMany hC_TooMany tC_TooMany s_TooMany_TooMany), (PySem.W.exm_ref eC_Twice hC_Twice tC_Twice s_TooMany_Twice), (PySem.W.exm_ref eC_NoName hC_NoName tC_NoName s_TooMany_NoName), (PySem.W.exm_ref eC_NoText hC_NoText tC_NoText s_TooMany_NoText), (PySem.W.exm_ref eC_NoLock hC_NoLock tC_NoLock s_TooMany_NoLock), (PySem.W.exm_ref eC_NoStep hC_NoStep tC_NoStep s_TooMany_NoStep), (PySem.W.exm_ref eC_CalmError hC_CalmError tC_CalmError s_NoStep_CalmError), (PySem.W.exm_ref eC_TooMany hC_TooMany tC_TooMany s_NoStep_TooMany), (PySem.W.exm_ref eC_Twice hC_Twice tC_Twice s_NoStep_Twice), (PySem.W.exm_ref eC_NoName hC_NoName tC_NoName s_NoStep_NoName), (PySem.W.exm_ref eC_NoText hC_NoText tC_NoText s_NoStep_NoText), (PySem.W.exm_ref eC_NoLock hC_NoLock tC_NoLock s_NoStep_NoLock), (PySem.W.exm_ref eC_NoStep hC_NoStep tC_NoStep s_NoStep_NoStep), (kit_own hC_TooMany tC_TooMany s_NoLock_TooMany (fun e => by
    have h1 := s_NoLock_TooMany
    rw [e, s_TooMany_TooMany] at h1
    cases h1)), (kit_own hC_TooMany tC_TooMany s_NoText_TooMany (fun e => by
    have h1 := s_NoText_TooMany
    rw [e, s_TooMany_TooMany] at h1
    cases h1)), (kit_own hC_TooMany tC_TooMany s_NoName_TooMany (fun e => by
    have h1 := s_NoName_TooMany
    rw [e, s_TooMany_TooMany] at h1
    cases h1)), (kit_own hC_TooMany tC_TooMany s_Twice_TooMany (fun e => by
    have h1 := s_Twice_TooMany
    rw [e, s_TooMany_TooMany] at h1
    cases h1)), (kit_own hC_TooMany tC_TooMany s_TooMany_TooMany (fun _ => rfl)), (kit_own hC_TooMany tC_TooMany s_NoStep_TooMany (fun e => by
    have h1 := s_NoStep_TooMany
    rw [e, s_TooMany_TooMany] at h1
    cases h1)), (kit_own hC_Twice tC_Twice s_NoLock_Twice (fun e => by
    have h1 := s_NoLock_Twice
    rw [e, s_Twice_Twice] at h1
    cases h1)), (kit_own hC_Twice tC_Twice s_NoText_Twice (fun e => by
    have h1 := s_NoText_Twice
    rw [e, s_Twice_Twice] at h1
    cases h1)), (kit_own hC_Twice tC_Twice s_NoName_Twice (fun e => by
    have h1 := s_NoName_Twice
    rw [e, s_Twice_Twice] at h1
    cases h1)), (kit_own hC_Twice tC_Twice s_Twice_Twice (fun _ => rfl)), (kit_own hC_Twice tC_Twice s_TooMany_Twice (fun e => by
    have h1 := s_TooMany_Twice
    rw [e, s_Twice_Twice] at h1
    cases h1)), (kit_own hC_Twice tC_Twice s_NoStep_Twice (fun e => by
    have h1 := s_NoStep_Twice
    rw [e, s_Twice_Twice] at h1
    cases h1)), (kit_own hC_NoName tC_NoName s_NoLock_NoName (fun e => by
    have h1 := s_NoLock_NoName
    rw [e, s_NoName_NoName] at h1
    cases h1)), (kit_own hC_NoName tC_NoName s_NoText_NoName (fun e => by
    have h1 := s_NoText_NoName
    rw [e, s_NoName_NoName] at h1
    cases h1)), (kit_own hC_NoName tC_NoName s_NoName_NoName (fun _ => rfl)), (kit_own hC_NoName tC_NoName s_Twice_NoName (fun e => by
    have h1 := s_Twice_NoName
    rw [e, s_NoName_NoName] at h1
    cases h1)), (kit_own hC_NoName tC_NoName s_TooMany_NoName (fun e => by
    have h1 := s_TooMany_NoName
    rw [e, s_NoName_NoName] at h1
    cases h1)), (kit_own hC_NoName tC_NoName s_NoStep_NoName (fun e => by
    have h1 := s_NoStep_NoName
    rw [e, s_NoName_NoName] at h1
    cases h1)), (kit_own hC_NoText tC_NoText s_NoLock_NoText (fun e => by
    have h1 := s_NoLock_NoText
    rw [e, s_NoText_NoText] at h1
    cases h1)), (kit_own hC_NoText tC_NoText s_NoText_NoText (fun _ => rfl)), (kit_own hC_NoText tC_NoText s_NoName_NoText (fun e => by
    have h1 := s_NoName_NoText
    rw [e, s_NoText_NoText] at h1
    cases h1)), (kit_own hC_NoText tC_NoText s_Twice_NoText (fun e => by
    have h1 := s_Twice_NoText
    rw [e, s_NoText_NoText] at h1
    cases h1)), (kit_own hC_NoText tC_NoText s_TooMany_NoText (fun e => by
    have h1 := s_TooMany_NoText
    rw [e, s_NoText_NoText] at h1
    cases h1)), (kit_own hC_NoText tC_NoText s_NoStep_NoText (fun e => by
    have h1 := s_NoStep_NoText
    rw [e, s_NoText_NoText] at h1
    cases h1)), (kit_own hC_NoLock tC_NoLock s_NoLock_NoLock (fun _ => rfl)), (kit_own hC_NoLock tC_NoLock s_NoText_NoLock (fun e => by
    have h1 := s_NoText_NoLock
    rw [e, s_NoLock_NoLock] at h1
    cases h1)), (kit_own hC_NoLock tC_NoLock s_NoName_NoLock (fun e => by
    have h1 := s_NoName_NoLock
    rw [e, s_NoLock_NoLock] at h1
    cases h1)), (kit_own hC_NoLock tC_NoLock s_Twice_NoLock (fun e => by
    have h1 := s_Twice_NoLock
    rw [e, s_NoLock_NoLock] at h1
    cases h1)), (kit_own hC_NoLock tC_NoLock s_TooMany_NoLock (fun e => by
    have h1 := s_TooMany_NoLock
    rw [e, s_NoLock_NoLock] at h1
    cases h1)), (kit_own hC_NoLock tC_NoLock s_NoStep_NoLock (fun e => by
    have h1 := s_NoStep_NoLock
    rw [e, s_NoLock_NoLock] at h1
    cases h1)), (kit_own hC_NoStep tC_NoStep s_NoLock_NoStep (fun e => by
    have h1 := s_NoLock_NoStep
    rw [e, s_NoStep_NoStep] at h1
    cases h1)), (kit_own hC_NoStep tC_NoStep s_NoText_NoStep (fun e => by
    have h1 := s_NoText_NoStep
    rw [e, s_NoStep_NoStep] at h1
    cases h1)), (kit_own hC_NoStep tC_NoStep s_NoName_NoStep (fun e => by
    have h1 := s_NoName_NoStep
    rw [e, s_NoStep_NoStep] at h1
    cases h1)), (kit_own hC_NoStep tC_NoStep s_Twice_NoStep (fun e => by
    have h1 := s_Twice_NoStep
    rw [e, s_NoStep_NoStep] at h1
    cases h1)), (kit_own hC_NoStep tC_NoStep s_TooMany_NoStep (fun e => by
    have h1 := s_TooMany_NoStep
    rw [e, s_NoStep_NoStep] at h1
    cases h1)), (kit_own hC_NoStep tC_NoStep s_NoStep_NoStep (fun _ => rfl)), (kit_ve s_NoLock_ValueError (by decide +kernel)), (kit_ve s_NoText_ValueError (by decide +kernel)), (kit_ve s_NoName_ValueError (by decide +kernel)), (kit_ve s_Twice_ValueError (by decide +kernel)), (kit_ve s_TooMany_ValueError (by decide +kernel)), (kit_ve s_NoStep_ValueError (by decide +kernel)), (kit_own hC_CalmError tC_CalmError s_NoLock_CalmError (fun _ => rfl)), (kit_own hC_CalmError tC_CalmError s_NoText_CalmError (fun _ => rfl)), (kit_own hC_CalmError tC_CalmError s_NoName_CalmError (fun _ => rfl)), (kit_own hC_CalmError tC_CalmError s_Twice_CalmError (fun _ => rfl)), (kit_own hC_CalmError tC_CalmError s_TooMany_CalmError (fun _ => rfl)), (kit_own hC_CalmError tC_CalmError s_NoStep_CalmError (fun _ => rfl))⟩
  have e := hfa.symm.trans (PySem.W.mg_of X G a4)
  cases e
  have F := fun_mk (st := s_law) l4 e4 k4
  refine ⟨PySem.W.fnOf "law" "law" (defArgs s_law) (defBody s_law) (defScope s_law) .none kV4 dc4 pm4 an4 cd4 ct4, fun s v => .of_eq rfl, fun base _ _ => ?_⟩
  have o__law_cell_at : FnD l.prog w K mg base CX0 (ecL [("NoLock", (cNoLock, "step")), ("NoText", (cNoText, "row")), ("NoName", (cNoName, "name")), ("Twice", (cTwice, "name")), ("TooMany", (cTooMany, "most")), ("NoStep", (cNoStep, "place"))]) 1 "_law_cell_at" 2 (mf__law_cell_at cCalmError cNoText cNoName cTwice cTooMany cNoStep cNoLock) := ok__law_cell_at T (fun_mk (st := s__law_cell_at) l0 e0 k0) (PySem.W.mg_of X G a0)  
  have o__law_kinds : FnD l.prog w K mg base CX0 (ecL [("NoLock", (cNoLock, "step")), ("NoText", (cNoText, "row")), ("NoName", (cNoName, "name")), ("Twice", (cTwice, "name")), ("TooMany", (cTooMany, "most")), ("NoStep", (cNoStep, "place"))]) 1 "_law_kinds" 1 (mf__law_kinds cCalmError cNoText cNoName cTwice cTooMany cNoStep cNoLock) := ok__law_kinds T (fun_mk (st := s__law_kinds) l1 e1 k1) (PySem.W.mg_of X G a1)  
  have o__law_made : FnD l.prog w K mg base CX0 (ecL [("NoLock", (cNoLock, "step")), ("NoText", (cNoText, "row")), ("NoName", (cNoName, "name")), ("Twice", (cTwice, "name")), ("TooMany", (cTooMany, "most")), ("NoStep", (cNoStep, "place"))]) 3 "_law_made" 3 (mf__law_made cCalmError cNoText cNoName cTwice cTooMany cNoStep cNoLock) := ok__law_made T (fun_mk (st := s__law_made) l2 e2 k2) (PySem.W.mg_of X G a2)  
  have o__law_raised : FnD l.prog w K mg base (L2.CX l.prog w) (ecL [("NoLock", (cNoLock, "step")), ("NoText", (cNoText, "row")), ("NoName", (cNoName, "name")), ("Twice", (cTwice, "name")), ("TooMany", (cTooMany, "most")), ("NoStep", (cNoStep, "place"))]) 3 "_law_raised" 3 (mf__law_raised cCalmError cNoText cNoName cTwice cTooMany cNoStep cNoLock) := ok__law_raised T (fun_mk (st := s__law_raised) l3 e3 k3) (PySem.W.mg_of X G a3)  
  exact L2.FnOk.imp (ok_law T F o__law_cell_at o__law_kinds o__law_made o__law_raised) fun vs H Q E h => ⟨h.1, fun b => h.2 b cCalmError cNoText cNoName cTwice cTooMany cNoStep cNoLock _⟩
theorem walk {l : PySem.W.OpenLaw} {q : Program} {loose : List Str} {XP : (Str → Option Value) → Heap → Prop} {YP : World → Heap → Prop} {d : DefRec} {K : Params → PySem.W.Frag} (hlaw : ∀ (cCalmError cNoText cNoName cTwice cTooMany cNoStep cNoLock : Addr) (ns : List Int), ns.length ≤ 63 → ∃ s', (mf_law cCalmError cNoText cNoName cTwice cTooMany cNoStep cNoLock) [some (.val (.scr ns))] = some (.ok (.val (.bl true)), s')) (hn : l.most = some 63) (hdf : d.params.defaults = [])
    (hY : ∀ (w : World) (h : Heap), YP w h → (K w.params).In h)
    (F : ∀ (w : World) (mg : Str → Option Value) (fa : Addr) (h : Heap), (K w.params).In h → h.Ns mainGlobals mg → mg d.name = some (.ref fa) →
      ∃ fd : FuncData, (∀ (s : Shared) (u : Value), BindsTo s fd ⟨[u], []⟩ [("_law_script", u)]) ∧ ∀ base : Heap, (K w.params).In base → base.Ns mainGlobals mg → FnOk l.prog w (K w.params) mg base (L2.CX l.prog w) 4 fa fd ["_law_script"] (fun vs H Q E => vs.length = 1 ∧ (Bounded (K w.params) H → ∀ (cCalmError cNoText cNoName cTwice cTooMany cNoStep cNoLock : Addr) ec, spD (K w.params) ec (mf_law cCalmError cNoText cNoName cTwice cTooMany cNoStep cNoLock) vs H Q E))) :
    PySem.W.WalkO q loose XP YP l.row.toRowW d [] (fun f vs => PySem.call f vs) :=
  L2.walk_of (n := 63) (k := 4) (x := "_law_script") (CX := fun w => (L2.CX l.prog w)) (sp := fun w => (fun vs H Q E => vs.length = 1 ∧ (Bounded (K w.params) H → ∀ (cCalmError cNoText cNoName cTwice cTooMany cNoStep cNoLock : Addr) ec, spD (K w.params) ec (mf_law cCalmError cNoText cNoName cTwice cTooMany cNoStep cNoLock) vs H Q E))) hn (by decide) hdf ⟨rfl, by decide, by decide⟩ hY F (fun _ _ a ns hl hO hS => ⟨rfl, fun b cCalmError cNoText cNoName cTwice cTooMany cNoStep cNoLock ec => (law_sp (ec := ec) hO hS (hlaw cCalmError cNoText cNoName cTwice cTooMany cNoStep cNoLock ns hl)).2 b⟩) fun _ _ _ _ _ z => cx_no z
end My

end
section
set_option maxRecDepth 100000
set_option maxHeartbeats 1000000
namespace My
open PySem L2 Dt Cal
local macro_rules | `(tactic| walk_at "ev") => `(tactic| simp only [ap_bnd, ap_ret, ap_fail, ap_lift, ap_lift0, ap_hasSlot, ap_rdSlot, ap_eName, st_v, st_slot, rd_v, rd_slot, ap_binV, ap_bin2, ap_binT, ap_callV, ap_callN, ap_callI, starts_nil, starts_cons, reads_nil, reads_cons, ap_consM, ap_tupM, ap_lstM, ap_frz, ap_andT, ap_orT, ap_notT, ap_andV, ap_orV, ap_notV, ap_ifM, ap_opdT, ap_isiV, ap_iterV, ap_iterL, ap_ite, ap_tstM, ap_methW, ap_mutM, ap_mutE, ap_somM, ap_sliceM, ap_chainV, ap_callF, startsA_nil, startsA_cons, sa_v, sa_slot, sa_new, argsOf_nil, argsOf_cons, argOf_v, argOf_new, argOf_slot, back_nil, back_slot, back_v, back_new, ap_bndS, ap_seqS, ap_nxS, ap_exprS, ap_retS, ap_moveS, ap_ifS, ap_setS, ap_asgS, ap_forS, ap_storeS, ap_storeE, ap_lcM, go_name, go_tup, gos_nil, gos_cons, wipe_nil, wipe_cons,
  fnM, entD, outD, ap_lc1, ap_for1, pow10, pow2, at0, at1, at2, at3, at4, at5, d_val, d_own, item_tup, item_lst, item_scr, item_dicK, item_dicI, add_int, sub_int, lt_int, le_int, gt_int, ge_int, eq_int, ne_int, eq_str, ne_str, is_non, isnot_non, bl_of, int_of, seq_lst, seq_tup, seq_scr, seq_dic, tru_bl, tru_non, tru_int, tru_lst, tru_tup, len_str, len_tup, len_lst, len_scr, len_dic, abs_int, min_int, max_int, int_bl, int_int, neg_int, list_lst, list_tup, tuple_lst, tuple_tup, sum_lst, all_lst, any_lst, cls_non, cls_bl, cls_int, cls_str, cls_tup, cls_lst, cls_dic, isi_same, rev_lst, clr_lst, enum_lst, sl_lst, sl_scr, set0, set1, set_dicK, get_dicK,
  Bool.and_eq_true, Int.reduceLT, Int.reduceLE, Int.reduceNeg, Int.reduceToNat, Int.reduceAdd, Int.reduceSub, Int.reduceMul, Int.reducePow, Nat.reducePow, true_and, and_true, Int.toNat_natCast, List.length_map, List.length_append, List.length_range, and_self, Int.reduceEq, Int.reduceMod, Int.reduceDiv, Option.bind_some, Option.map_some, Option.join_some,
  List.getElem?_cons_zero, List.getElem?_cons_succ, List.set_cons_zero, List.set_cons_succ, List.length_cons, List.length_nil, List.replicate, List.cons_append, List.nil_append, List.map_cons, List.map_nil, if_true, if_false, Nat.reduceAdd, Nat.reduceSub, Nat.reduceLT, Nat.reduceLeDiff, reduceIte, List.mem_cons, List.not_mem_nil, or_false, false_or, true_or, or_true, Nat.reduceEqDiff, reduceCtorEq, decide_eq_true_eq, Nat.succ_ne_zero, Nat.zero_add, Option.getD_some, Option.getD_none, Bool.not_true, Bool.not_false, decide_true, decide_false,
  zip_ll, zip_lt, zip_tl, zip_tt, listE_lst, listE_tup, listE_dic, dict_dic, dict_lst, index_lst, items_dic, values_dic, rev_m, itemsI_dic, valuesI_dic, revI_lst, revI_tup, toD_str, toD_int, in_two, w_most_rest, w_most_at, w_most_and, w_most_or, w_most_not, w_rest_most, w_rest_at, w_rest_and, w_rest_or, w_rest_not, w_at_most, w_at_rest, w_at_and, w_at_or, w_at_not, w_and_most, w_and_rest, w_and_at, w_and_or, w_and_not, w_or_most, w_or_rest, w_or_at, w_or_and, w_or_not, w_not_most, w_not_rest, w_not_at, w_not_and, w_not_or, Int.cast_ofNat_Int, ap_for2, ap_dzM, ok_some, okS_some, ok1_some, okC_some, ap_for2, ap_dzM, beq_iff_eq, Bool.false_eq_true])
local macro_rules | `(tactic| walk_at "dis") => `(tactic| first | assumption | omega | (simp only [List.length_map, List.length_cons, List.length_nil, List.length_append, List.length_range, List.length_zip, List.length_replicate]; omega) | decide)
local macro_rules | `(tactic| exists $es,*) => `(tactic| simp (disch := walk_at "dis") only [$[$es:term],*, mod_ok, div_ok, mulE_ok, adds_ok, addl_ok, addt_ok, dapp_ok, dext_ok, pow_ok, Int.cast_ofNat_Int, Int.zero_add,  sortedD_lst, ap_bnd, ap_ret, ap_fail, ap_lift, ap_lift0, ap_hasSlot, ap_rdSlot, ap_eName, st_v, st_slot, rd_v, rd_slot, ap_binV, ap_bin2, ap_binT, ap_callV, ap_callN, ap_callI, starts_nil, starts_cons, reads_nil, reads_cons, ap_consM, ap_tupM, ap_lstM, ap_frz, ap_andT, ap_orT, ap_notT, ap_andV, ap_orV, ap_notV, ap_ifM, ap_opdT, ap_isiV, ap_iterV, ap_iterL, ap_ite, ap_tstM, ap_methW, ap_mutM, ap_mutE, ap_somM, ap_sliceM, ap_chainV, ap_callF, startsA_nil, startsA_cons, sa_v, sa_slot, sa_new, argsOf_nil, argsOf_cons, argOf_v, argOf_new, argOf_slot, back_nil, back_slot, back_v, back_new, ap_bndS, ap_seqS, ap_nxS, ap_exprS, ap_retS, ap_moveS, ap_ifS, ap_setS, ap_asgS, ap_forS, ap_storeS, ap_storeE, ap_lcM, go_name, go_tup, gos_nil, gos_cons, wipe_nil, wipe_cons,
  fnM, entD, outD, ap_lc1, ap_for1, pow10, pow2, at0, at1, at2, at3, at4, at5, d_val, d_own, item_tup, item_lst, item_scr, item_dicK, item_dicI, add_int, sub_int, lt_int, le_int, gt_int, ge_int, eq_int, ne_int, eq_str, ne_str, is_non, isnot_non, bl_of, int_of, seq_lst, seq_tup, seq_scr, seq_dic, tru_bl, tru_non, tru_int, tru_lst, tru_tup, len_str, len_tup, len_lst, len_scr, len_dic, abs_int, min_int, max_int, int_bl, int_int, neg_int, list_lst, list_tup, tuple_lst, tuple_tup, sum_lst, all_lst, any_lst, cls_non, cls_bl, cls_int, cls_str, cls_tup, cls_lst, cls_dic, isi_same, rev_lst, clr_lst, enum_lst, sl_lst, sl_scr, set0, set1, set_dicK, get_dicK,
  Bool.and_eq_true, Int.reduceLT, Int.reduceLE, Int.reduceNeg, Int.reduceToNat, Int.reduceAdd, Int.reduceSub, Int.reduceMul, Int.reducePow, Nat.reducePow, true_and, and_true, Int.toNat_natCast, List.length_map, List.length_append, List.length_range, and_self, Int.reduceEq, Int.reduceMod, Int.reduceDiv, Option.bind_some, Option.map_some, Option.join_some,
  List.getElem?_cons_zero, List.getElem?_cons_succ, List.set_cons_zero, List.set_cons_succ, List.length_cons, List.length_nil, List.replicate, List.cons_append, List.nil_append, List.map_cons, List.map_nil, if_true, if_false, Nat.reduceAdd, Nat.reduceSub, Nat.reduceLT, Nat.reduceLeDiff, reduceIte, List.mem_cons, List.not_mem_nil, or_false, false_or, true_or, or_true, Nat.reduceEqDiff, reduceCtorEq, decide_eq_true_eq, Nat.succ_ne_zero, Nat.zero_add, Option.getD_some, Option.getD_none, Bool.not_true, Bool.not_false, decide_true, decide_false,
  zip_ll, zip_lt, zip_tl, zip_tt, listE_lst, listE_tup, listE_dic, dict_dic, dict_lst, index_lst, items_dic, values_dic, rev_m, itemsI_dic, valuesI_dic, revI_lst, revI_tup, toD_str, toD_int, in_two, w_most_rest, w_most_at, w_most_and, w_most_or, w_most_not, w_rest_most, w_rest_at, w_rest_and, w_rest_or, w_rest_not, w_at_most, w_at_rest, w_at_and, w_at_or, w_at_not, w_and_most, w_and_rest, w_and_at, w_and_or, w_and_not, w_or_most, w_or_rest, w_or_at, w_or_and, w_or_not, w_not_most, w_not_rest, w_not_at, w_not_and, w_not_or, Int.cast_ofNat_Int, ap_for2, ap_dzM, ok_some, okS_some, ok1_some, okC_some, ap_for2, ap_dzM, beq_iff_eq, Bool.false_eq_true])
section
variable (cCalmError cNoText cNoName cTwice cTooMany cNoStep cNoLock : Addr)
theorem ap_mkM' (c f : Str) (C : Addr) (m : M D) (s : DSt) : mkM c f C m s = bnd m (fun d => Dt.ret (.exc c f C d)) s := rfl
theorem isXD_exc (ce : EC) (l : List (Str × Bool)) (c f : Str) (C : Addr) (d : D) : isXD ce l (.exc c f C d) = if ce c = some (C, f) then (l.lookup c).map D.bl else none := rfl
theorem fldX_exc (c f : Str) (C : Addr) (d : D) : fldX f (.exc c f C d) = some d := if_pos rfl
theorem ap_tryK (b : MS) (tk : Str → Bool) (ce : EC) (i j : Nat) (s : DSt) : tryK b tk ce i j s = (match b s with
  | some (.ex c d, s') => if tk c = true then (match ce c with
    | some (C, f) => if i < s'.length then some (.nx, (s'.set i none).set j (some (.val (.exc c f C d)))) else none
    | none => none) else some (.ex c d, s')
  | o => o) := rfl
theorem ap_raiseS (x : Str) (m : M D) (s : DSt) : raiseS x m s = bndS m (fun d s => some (.ex x d, s)) s := rfl
theorem ec_NoLock : (ecL [("NoLock", (cNoLock, "step")), ("NoText", (cNoText, "row")), ("NoName", (cNoName, "name")), ("Twice", (cTwice, "name")), ("TooMany", (cTooMany, "most")), ("NoStep", (cNoStep, "place"))]) "NoLock" = some (cNoLock, ("step" : Str)) := rfl
theorem tk_NoLock : (["NoLock", "NoText", "NoName", "Twice", "TooMany", "NoStep"] : List Str).contains "NoLock" = true := by decide
theorem lk_NoLock_NoText : ([("NoLock", false), ("NoText", true), ("NoName", false), ("Twice", false), ("TooMany", false), ("NoStep", false)] : List (Str × Bool)).lookup ("NoLock" : Str) = some false := by decide
theorem lk_NoLock_NoName : ([("NoLock", false), ("NoText", false), ("NoName", true), ("Twice", false), ("TooMany", false), ("NoStep", false)] : List (Str × Bool)).lookup ("NoLock" : Str) = some false := by decide
theorem lk_NoLock_Twice : ([("NoLock", false), ("NoText", false), ("NoName", false), ("Twice", true), ("TooMany", false), ("NoStep", false)] : List (Str × Bool)).lookup ("NoLock" : Str) = some false := by decide
theorem lk_NoLock_TooMany : ([("NoLock", false), ("NoText", false), ("NoName", false), ("Twice", false), ("TooMany", true), ("NoStep", false)] : List (Str × Bool)).lookup ("NoLock" : Str) = some false := by decide
theorem lk_NoLock_NoStep : ([("NoLock", false), ("NoText", false), ("NoName", false), ("Twice", false), ("TooMany", false), ("NoStep", true)] : List (Str × Bool)).lookup ("NoLock" : Str) = some false := by decide
theorem lk_NoLock_NoLock : ([("NoLock", true), ("NoText", false), ("NoName", false), ("Twice", false), ("TooMany", false), ("NoStep", false)] : List (Str × Bool)).lookup ("NoLock" : Str) = some true := by decide
theorem lk_NoLock_None : ([("NoLock", true), ("NoText", true), ("NoName", true), ("Twice", true), ("TooMany", true), ("NoStep", true)] : List (Str × Bool)).lookup ("NoLock" : Str) = some true := by decide
theorem ec_NoText : (ecL [("NoLock", (cNoLock, "step")), ("NoText", (cNoText, "row")), ("NoName", (cNoName, "name")), ("Twice", (cTwice, "name")), ("TooMany", (cTooMany, "most")), ("NoStep", (cNoStep, "place"))]) "NoText" = some (cNoText, ("row" : Str)) := rfl
theorem tk_NoText : (["NoLock", "NoText", "NoName", "Twice", "TooMany", "NoStep"] : List Str).contains "NoText" = true := by decide
theorem lk_NoText_NoText : ([("NoLock", false), ("NoText", true), ("NoName", false), ("Twice", false), ("TooMany", false), ("NoStep", false)] : List (Str × Bool)).lookup ("NoText" : Str) = some true := by decide
theorem lk_NoText_NoName : ([("NoLock", false), ("NoText", false), ("NoName", true), ("Twice", false), ("TooMany", false), ("NoStep", false)] : List (Str × Bool)).lookup ("NoText" : Str) = some false := by decide
theorem lk_NoText_Twice : ([("NoLock", false), ("NoText", false), ("NoName", false), ("Twice", true), ("TooMany", false), ("NoStep", false)] : List (Str × Bool)).lookup ("NoText" : Str) = some false := by decide
theorem lk_NoText_TooMany : ([("NoLock", false), ("NoText", false), ("NoName", false), ("Twice", false), ("TooMany", true), ("NoStep", false)] : List (Str × Bool)).lookup ("NoText" : Str) = some false := by decide
theorem lk_NoText_NoStep : ([("NoLock", false), ("NoText", false), ("NoName", false), ("Twice", false), ("TooMany", false), ("NoStep", true)] : List (Str × Bool)).lookup ("NoText" : Str) = some false := by decide
theorem lk_NoText_NoLock : ([("NoLock", true), ("NoText", false), ("NoName", false), ("Twice", false), ("TooMany", false), ("NoStep", false)] : List (Str × Bool)).lookup ("NoText" : Str) = some false := by decide
theorem lk_NoText_None : ([("NoLock", true), ("NoText", true), ("NoName", true), ("Twice", true), ("TooMany", true), ("NoStep", true)] : List (Str × Bool)).lookup ("NoText" : Str) = some true := by decide
theorem ec_NoName : (ecL [("NoLock", (cNoLock, "step")), ("NoText", (cNoText, "row")), ("NoName", (cNoName, "name")), ("Twice", (cTwice, "name")), ("TooMany", (cTooMany, "most")), ("NoStep", (cNoStep, "place"))]) "NoName" = some (cNoName, ("name" : Str)) := rfl
theorem tk_NoName : (["NoLock", "NoText", "NoName", "Twice", "TooMany", "NoStep"] : List Str).contains "NoName" = true := by decide
theorem lk_NoName_NoText : ([("NoLock", false), ("NoText", true), ("NoName", false), ("Twice", false), ("TooMany", false), ("NoStep", false)] : List (Str × Bool)).lookup ("NoName" : Str) = some false := by decide
theorem lk_NoName_NoName : ([("NoLock", false), ("NoText", false), ("NoName", true), ("Twice", false), ("TooMany", false), ("NoStep", false)] : List (Str × Bool)).lookup ("NoName" : Str) = some true := by decide
theorem lk_NoName_Twice : ([("NoLock", false), ("NoText", false), ("NoName", false), ("Twice", true), ("TooMany", false), ("NoStep", false)] : List (Str × Bool)).lookup ("NoName" : Str) = some false := by decide
theorem lk_NoName_TooMany : ([("NoLock", false), ("NoText", false), ("NoName", false), ("Twice", false), ("TooMany", true), ("NoStep", false)] : List (Str × Bool)).lookup ("NoName" : Str) = some false := by decide
theorem lk_NoName_NoStep : ([("NoLock", false), ("NoText", false), ("NoName", false), ("Twice", false), ("TooMany", false), ("NoStep", true)] : List (Str × Bool)).lookup ("NoName" : Str) = some false := by decide
theorem lk_NoName_NoLock : ([("NoLock", true), ("NoText", false), ("NoName", false), ("Twice", false), ("TooMany", false), ("NoStep", false)] : List (Str × Bool)).lookup ("NoName" : Str) = some false := by decide
theorem lk_NoName_None : ([("NoLock", true), ("NoText", true), ("NoName", true), ("Twice", true), ("TooMany", true), ("NoStep", true)] : List (Str × Bool)).lookup ("NoName" : Str) = some true := by decide
theorem ec_Twice : (ecL [("NoLock", (cNoLock, "step")), ("NoText", (cNoText, "row")), ("NoName", (cNoName, "name")), ("Twice", (cTwice, "name")), ("TooMany", (cTooMany, "most")), ("NoStep", (cNoStep, "place"))]) "Twice" = some (cTwice, ("name" : Str)) := rfl
theorem tk_Twice : (["NoLock", "NoText", "NoName", "Twice", "TooMany", "NoStep"] : List Str).contains "Twice" = true := by decide
theorem lk_Twice_NoText : ([("NoLock", false), ("NoText", true), ("NoName", false), ("Twice", false), ("TooMany", false), ("NoStep", false)] : List (Str × Bool)).lookup ("Twice" : Str) = some false := by decide
theorem lk_Twice_NoName : ([("NoLock", false), ("NoText", false), ("NoName", true), ("Twice", false), ("TooMany", false), ("NoStep", false)] : List (Str × Bool)).lookup ("Twice" : Str) = some false := by decide
theorem lk_Twice_Twice : ([("NoLock", false), ("NoText", false), ("NoName", false), ("Twice", true), ("TooMany", false), ("NoStep", false)] : List (Str × Bool)).lookup ("Twice" : Str) = some true := by decide
theorem lk_Twice_TooMany : ([("NoLock", false), ("NoText", false), ("NoName", false), ("Twice", false), ("TooMany", true), ("NoStep", false)] : List (Str × Bool)).lookup ("Twice" : Str) = some false := by decide
theorem lk_Twice_NoStep : ([("NoLock", false), ("NoText", false), ("NoName", false), ("Twice", false), ("TooMany", false), ("NoStep", true)] : List (Str × Bool)).lookup ("Twice" : Str) = some false := by decide
theorem lk_Twice_NoLock : ([("NoLock", true), ("NoText", false), ("NoName", false), ("Twice", false), ("TooMany", false), ("NoStep", false)] : List (Str × Bool)).lookup ("Twice" : Str) = some false := by decide
theorem lk_Twice_None : ([("NoLock", true), ("NoText", true), ("NoName", true), ("Twice", true), ("TooMany", true), ("NoStep", true)] : List (Str × Bool)).lookup ("Twice" : Str) = some true := by decide
theorem ec_TooMany : (ecL [("NoLock", (cNoLock, "step")), ("NoText", (cNoText, "row")), ("NoName", (cNoName, "name")), ("Twice", (cTwice, "name")), ("TooMany", (cTooMany, "most")), ("NoStep", (cNoStep, "place"))]) "TooMany" = some (cTooMany, ("most" : Str)) := rfl
theorem tk_TooMany : (["NoLock", "NoText", "NoName", "Twice", "TooMany", "NoStep"] : List Str).contains "TooMany" = true := by decide
theorem lk_TooMany_NoText : ([("NoLock", false), ("NoText", true), ("NoName", false), ("Twice", false), ("TooMany", false), ("NoStep", false)] : List (Str × Bool)).lookup ("TooMany" : Str) = some false := by decide
theorem lk_TooMany_NoName : ([("NoLock", false), ("NoText", false), ("NoName", true), ("Twice", false), ("TooMany", false), ("NoStep", false)] : List (Str × Bool)).lookup ("TooMany" : Str) = some false := by decide
theorem lk_TooMany_Twice : ([("NoLock", false), ("NoText", false), ("NoName", false), ("Twice", true), ("TooMany", false), ("NoStep", false)] : List (Str × Bool)).lookup ("TooMany" : Str) = some false := by decide
theorem lk_TooMany_TooMany : ([("NoLock", false), ("NoText", false), ("NoName", false), ("Twice", false), ("TooMany", true), ("NoStep", false)] : List (Str × Bool)).lookup ("TooMany" : Str) = some true := by decide
theorem lk_TooMany_NoStep : ([("NoLock", false), ("NoText", false), ("NoName", false), ("Twice", false), ("TooMany", false), ("NoStep", true)] : List (Str × Bool)).lookup ("TooMany" : Str) = some false := by decide
theorem lk_TooMany_NoLock : ([("NoLock", true), ("NoText", false), ("NoName", false), ("Twice", false), ("TooMany", false), ("NoStep", false)] : List (Str × Bool)).lookup ("TooMany" : Str) = some false := by decide
theorem lk_TooMany_None : ([("NoLock", true), ("NoText", true), ("NoName", true), ("Twice", true), ("TooMany", true), ("NoStep", true)] : List (Str × Bool)).lookup ("TooMany" : Str) = some true := by decide
theorem ec_NoStep : (ecL [("NoLock", (cNoLock, "step")), ("NoText", (cNoText, "row")), ("NoName", (cNoName, "name")), ("Twice", (cTwice, "name")), ("TooMany", (cTooMany, "most")), ("NoStep", (cNoStep, "place"))]) "NoStep" = some (cNoStep, ("place" : Str)) := rfl
theorem tk_NoStep : (["NoLock", "NoText", "NoName", "Twice", "TooMany", "NoStep"] : List Str).contains "NoStep" = true := by decide
theorem lk_NoStep_NoText : ([("NoLock", false), ("NoText", true), ("NoName", false), ("Twice", false), ("TooMany", false), ("NoStep", false)] : List (Str × Bool)).lookup ("NoStep" : Str) = some false := by decide
theorem lk_NoStep_NoName : ([("NoLock", false), ("NoText", false), ("NoName", true), ("Twice", false), ("TooMany", false), ("NoStep", false)] : List (Str × Bool)).lookup ("NoStep" : Str) = some false := by decide
theorem lk_NoStep_Twice : ([("NoLock", false), ("NoText", false), ("NoName", false), ("Twice", true), ("TooMany", false), ("NoStep", false)] : List (Str × Bool)).lookup ("NoStep" : Str) = some false := by decide
theorem lk_NoStep_TooMany : ([("NoLock", false), ("NoText", false), ("NoName", false), ("Twice", false), ("TooMany", true), ("NoStep", false)] : List (Str × Bool)).lookup ("NoStep" : Str) = some false := by decide
theorem lk_NoStep_NoStep : ([("NoLock", false), ("NoText", false), ("NoName", false), ("Twice", false), ("TooMany", false), ("NoStep", true)] : List (Str × Bool)).lookup ("NoStep" : Str) = some true := by decide
theorem lk_NoStep_NoLock : ([("NoLock", true), ("NoText", false), ("NoName", false), ("Twice", false), ("TooMany", false), ("NoStep", false)] : List (Str × Bool)).lookup ("NoStep" : Str) = some false := by decide
theorem lk_NoStep_None : ([("NoLock", true), ("NoText", true), ("NoName", true), ("Twice", true), ("TooMany", true), ("NoStep", true)] : List (Str × Bool)).lookup ("NoStep" : Str) = some true := by decide
theorem kinds_NoText (n : Int) (nm : Str) : mf__law_kinds cCalmError cNoText cNoName cTwice cTooMany cNoStep cNoLock [some (.val (.exc "NoText" "row" cNoText (.int n)))] = some (.ok (.own (.lst [.bl true, .bl false, .bl false, .bl false, .bl false, .bl false])), [some (.val (.exc "NoText" "row" cNoText (.int n)))]) := by
  have a := ec_NoText cNoText cNoName cTwice cTooMany cNoStep cNoLock
  unfold mf__law_kinds b__law_kinds
  exists ap_isXM, isXD_exc, a, lk_NoText_NoText, lk_NoText_NoName, lk_NoText_Twice, lk_NoText_TooMany, lk_NoText_NoStep, lk_NoText_NoLock, lk_NoText_None
theorem made_NoText (n : Int) (nm : Str) : mf__law_made cCalmError cNoText cNoName cTwice cTooMany cNoStep cNoLock [some (.val (.int 0)), some (.val (.int n)), some (.val (.str nm))] = some (.ok (.val (.tup [(.exc "NoText" "row" cNoText (.int n)), (.int n), (.int n)])), [some (.val (.int 0)), some (.val (.int n)), some (.val (.str nm))]) := by
  unfold mf__law_made b__law_made
  exists ap_mkM', ap_fldM, fldX_exc
theorem raised_NoText (n : Int) (nm : Str) : mf__law_raised cCalmError cNoText cNoName cTwice cTooMany cNoStep cNoLock [some (.val (.int 0)), some (.val (.int n)), some (.val (.str nm))] = some (.err "NoText" (.int n), [some (.val (.int 0)), some (.val (.int n)), some (.val (.str nm))]) := by
  unfold mf__law_raised b__law_raised
  exists ap_raiseS
theorem turn_NoText (ns : List Int) (n : Int) (nm : Str) (o3 o4 o5 o6 : Option RV) : ∃ o4' o5' : Option RV, for1 (.name 3) (b_law_1 cCalmError cNoText cNoName cTwice cTooMany cNoStep cNoLock) (.int 0) [some (.val (.scr ns)), some (.val (.int n)), some (.val (.str nm)), o3, o4, o5, o6, none] = some [some (.val (.scr ns)), some (.val (.int n)), some (.val (.str nm)), some (.val (.int 0)), o4', o5', none, none] := by
  have a := ec_NoText cNoText cNoName cTwice cTooMany cNoStep cNoLock
  have k := kinds_NoText cCalmError cNoText cNoName cTwice cTooMany cNoStep cNoLock n nm
  have m := made_NoText cCalmError cNoText cNoName cTwice cTooMany cNoStep cNoLock n nm
  have r := raised_NoText cCalmError cNoText cNoName cTwice cTooMany cNoStep cNoLock n nm
  have tk := tk_NoText
  have q1 : neD (.int n) (.int n) = some (.bl false) := ne_self rfl (by simp [deepD])
  have q2 : neD (.lst [.bl true, .bl false, .bl false, .bl false, .bl false, .bl false]) (.lst [.bl true, .bl false, .bl false, .bl false, .bl false, .bl false]) = some (.bl false) := rfl
  have w : lcGo [7] (.name 7) (Dt.ret true) (binV eqD (.slot 7) (.slot 3)) ((List.range 6).map fun k : Nat => D.int ((k : Nat) : Int)) [some (.val (.scr ns)), some (.val (.int n)), some (.val (.str nm)), some (.val (.int 0)), some (.val (.tup [(.exc "NoText" "row" cNoText (.int n)), (.int n), (.int n)])), o5, o6, none] = some (.ok [.bl true, .bl false, .bl false, .bl false, .bl false, .bl false], [some (.val (.scr ns)), some (.val (.int n)), some (.val (.str nm)), some (.val (.int 0)), some (.val (.tup [(.exc "NoText" "row" cNoText (.int n)), (.int n), (.int n)])), o5, o6, none]) :=
    lcGo_map (enc := fun k : Nat => D.int ((k : Nat) : Int)) (fun k : Nat => D.bl (((k : Nat) : Int) == 0)) (List.range 6) fun j _ => by exists eq_int
  have rg := range_at (j := 6) (n := 6) rfl (by omega)
  have at_ : itemD (.lst [.bl true, .bl false, .bl false, .bl false, .bl false, .bl false]) (.int 0) = some (.bl true) := rfl
  unfold b_law_1
  exists m, ap_isXM, isXD_exc, a, lk_NoText_None, q1, k, rg, w, q2, ap_tryK, r, tk, at_
  exact ⟨_, _, rfl⟩
theorem kinds_NoName (n : Int) (nm : Str) : mf__law_kinds cCalmError cNoText cNoName cTwice cTooMany cNoStep cNoLock [some (.val (.exc "NoName" "name" cNoName (.str nm)))] = some (.ok (.own (.lst [.bl false, .bl true, .bl false, .bl false, .bl false, .bl false])), [some (.val (.exc "NoName" "name" cNoName (.str nm)))]) := by
  have a := ec_NoName cNoText cNoName cTwice cTooMany cNoStep cNoLock
  unfold mf__law_kinds b__law_kinds
  exists ap_isXM, isXD_exc, a, lk_NoName_NoText, lk_NoName_NoName, lk_NoName_Twice, lk_NoName_TooMany, lk_NoName_NoStep, lk_NoName_NoLock, lk_NoName_None
theorem made_NoName (n : Int) (nm : Str) : mf__law_made cCalmError cNoText cNoName cTwice cTooMany cNoStep cNoLock [some (.val (.int 1)), some (.val (.int n)), some (.val (.str nm))] = some (.ok (.val (.tup [(.exc "NoName" "name" cNoName (.str nm)), (.str nm), (.str nm)])), [some (.val (.int 1)), some (.val (.int n)), some (.val (.str nm))]) := by
  unfold mf__law_made b__law_made
  exists ap_mkM', ap_fldM, fldX_exc
theorem raised_NoName (n : Int) (nm : Str) : mf__law_raised cCalmError cNoText cNoName cTwice cTooMany cNoStep cNoLock [some (.val (.int 1)), some (.val (.int n)), some (.val (.str nm))] = some (.err "NoName" (.str nm), [some (.val (.int 1)), some (.val (.int n)), some (.val (.str nm))]) := by
  unfold mf__law_raised b__law_raised
  exists ap_raiseS
theorem turn_NoName (ns : List Int) (n : Int) (nm : Str) (o3 o4 o5 o6 : Option RV) : ∃ o4' o5' : Option RV, for1 (.name 3) (b_law_1 cCalmError cNoText cNoName cTwice cTooMany cNoStep cNoLock) (.int 1) [some (.val (.scr ns)), some (.val (.int n)), some (.val (.str nm)), o3, o4, o5, o6, none] = some [some (.val (.scr ns)), some (.val (.int n)), some (.val (.str nm)), some (.val (.int 1)), o4', o5', none, none] := by
  have a := ec_NoName cNoText cNoName cTwice cTooMany cNoStep cNoLock
  have k := kinds_NoName cCalmError cNoText cNoName cTwice cTooMany cNoStep cNoLock n nm
  have m := made_NoName cCalmError cNoText cNoName cTwice cTooMany cNoStep cNoLock n nm
  have r := raised_NoName cCalmError cNoText cNoName cTwice cTooMany cNoStep cNoLock n nm
  have tk := tk_NoName
  have q1 : neD (.str nm) (.str nm) = some (.bl false) := ne_self rfl (by simp [deepD])
  have q2 : neD (.lst [.bl false, .bl true, .bl false, .bl false, .bl false, .bl false]) (.lst [.bl false, .bl true, .bl false, .bl false, .bl false, .bl false]) = some (.bl false) := rfl
  have w : lcGo [7] (.name 7) (Dt.ret true) (binV eqD (.slot 7) (.slot 3)) ((List.range 6).map fun k : Nat => D.int ((k : Nat) : Int)) [some (.val (.scr ns)), some (.val (.int n)), some (.val (.str nm)), some (.val (.int 1)), some (.val (.tup [(.exc "NoName" "name" cNoName (.str nm)), (.str nm), (.str nm)])), o5, o6, none] = some (.ok [.bl false, .bl true, .bl false, .bl false, .bl false, .bl false], [some (.val (.scr ns)), some (.val (.int n)), some (.val (.str nm)), some (.val (.int 1)), some (.val (.tup [(.exc "NoName" "name" cNoName (.str nm)), (.str nm), (.str nm)])), o5, o6, none]) :=
    lcGo_map (enc := fun k : Nat => D.int ((k : Nat) : Int)) (fun k : Nat => D.bl (((k : Nat) : Int) == 1)) (List.range 6) fun j _ => by exists eq_int
  have rg := range_at (j := 6) (n := 6) rfl (by omega)
  have at_ : itemD (.lst [.bl false, .bl true, .bl false, .bl false, .bl false, .bl false]) (.int 1) = some (.bl true) := rfl
  unfold b_law_1
  exists m, ap_isXM, isXD_exc, a, lk_NoName_None, q1, k, rg, w, q2, ap_tryK, r, tk, at_
  exact ⟨_, _, rfl⟩
theorem kinds_Twice (n : Int) (nm : Str) : mf__law_kinds cCalmError cNoText cNoName cTwice cTooMany cNoStep cNoLock [some (.val (.exc "Twice" "name" cTwice (.str nm)))] = some (.ok (.own (.lst [.bl false, .bl false, .bl true, .bl false, .bl false, .bl false])), [some (.val (.exc "Twice" "name" cTwice (.str nm)))]) := by
  have a := ec_Twice cNoText cNoName cTwice cTooMany cNoStep cNoLock
  unfold mf__law_kinds b__law_kinds
  exists ap_isXM, isXD_exc, a, lk_Twice_NoText, lk_Twice_NoName, lk_Twice_Twice, lk_Twice_TooMany, lk_Twice_NoStep, lk_Twice_NoLock, lk_Twice_None
theorem made_Twice (n : Int) (nm : Str) : mf__law_made cCalmError cNoText cNoName cTwice cTooMany cNoStep cNoLock [some (.val (.int 2)), some (.val (.int n)), some (.val (.str nm))] = some (.ok (.val (.tup [(.exc "Twice" "name" cTwice (.str nm)), (.str nm), (.str nm)])), [some (.val (.int 2)), some (.val (.int n)), some (.val (.str nm))]) := by
  unfold mf__law_made b__law_made
  exists ap_mkM', ap_fldM, fldX_exc
theorem raised_Twice (n : Int) (nm : Str) : mf__law_raised cCalmError cNoText cNoName cTwice cTooMany cNoStep cNoLock [some (.val (.int 2)), some (.val (.int n)), some (.val (.str nm))] = some (.err "Twice" (.str nm), [some (.val (.int 2)), some (.val (.int n)), some (.val (.str nm))]) := by
  unfold mf__law_raised b__law_raised
  exists ap_raiseS
theorem turn_Twice (ns : List Int) (n : Int) (nm : Str) (o3 o4 o5 o6 : Option RV) : ∃ o4' o5' : Option RV, for1 (.name 3) (b_law_1 cCalmError cNoText cNoName cTwice cTooMany cNoStep cNoLock) (.int 2) [some (.val (.scr ns)), some (.val (.int n)), some (.val (.str nm)), o3, o4, o5, o6, none] = some [some (.val (.scr ns)), some (.val (.int n)), some (.val (.str nm)), some (.val (.int 2)), o4', o5', none, none] := by
  have a := ec_Twice cNoText cNoName cTwice cTooMany cNoStep cNoLock
  have k := kinds_Twice cCalmError cNoText cNoName cTwice cTooMany cNoStep cNoLock n nm
  have m := made_Twice cCalmError cNoText cNoName cTwice cTooMany cNoStep cNoLock n nm
  have r := raised_Twice cCalmError cNoText cNoName cTwice cTooMany cNoStep cNoLock n nm
  have tk := tk_Twice
  have q1 : neD (.str nm) (.str nm) = some (.bl false) := ne_self rfl (by simp [deepD])
  have q2 : neD (.lst [.bl false, .bl false, .bl true, .bl false, .bl false, .bl false]) (.lst [.bl false, .bl false, .bl true, .bl false, .bl false, .bl false]) = some (.bl false) := rfl
  have w : lcGo [7] (.name 7) (Dt.ret true) (binV eqD (.slot 7) (.slot 3)) ((List.range 6).map fun k : Nat => D.int ((k : Nat) : Int)) [some (.val (.scr ns)), some (.val (.int n)), some (.val (.str nm)), some (.val (.int 2)), some (.val (.tup [(.exc "Twice" "name" cTwice (.str nm)), (.str nm), (.str nm)])), o5, o6, none] = some (.ok [.bl false, .bl false, .bl true, .bl false, .bl false, .bl false], [some (.val (.scr ns)), some (.val (.int n)), some (.val (.str nm)), some (.val (.int 2)), some (.val (.tup [(.exc "Twice" "name" cTwice (.str nm)), (.str nm), (.str nm)])), o5, o6, none]) :=
    lcGo_map (enc := fun k : Nat => D.int ((k : Nat) : Int)) (fun k : Nat => D.bl (((k : Nat) : Int) == 2)) (List.range 6) fun j _ => by exists eq_int
  have rg := range_at (j := 6) (n := 6) rfl (by omega)
  have at_ : itemD (.lst [.bl false, .bl false, .bl true, .bl false, .bl false, .bl false]) (.int 2) = some (.bl true) := rfl
  unfold b_law_1
  exists m, ap_isXM, isXD_exc, a, lk_Twice_None, q1, k, rg, w, q2, ap_tryK, r, tk, at_
  exact ⟨_, _, rfl⟩
theorem kinds_TooMany (n : Int) (nm : Str) : mf__law_kinds cCalmError cNoText cNoName cTwice cTooMany cNoStep cNoLock [some (.val (.exc "TooMany" "most" cTooMany (.int n)))] = some (.ok (.own (.lst [.bl false, .bl false, .bl false, .bl true, .bl false, .bl false])), [some (.val (.exc "TooMany" "most" cTooMany (.int n)))]) := by
  have a := ec_TooMany cNoText cNoName cTwice cTooMany cNoStep cNoLock
  unfold mf__law_kinds b__law_kinds
  exists ap_isXM, isXD_exc, a, lk_TooMany_NoText, lk_TooMany_NoName, lk_TooMany_Twice, lk_TooMany_TooMany, lk_TooMany_NoStep, lk_TooMany_NoLock, lk_TooMany_None
theorem made_TooMany (n : Int) (nm : Str) : mf__law_made cCalmError cNoText cNoName cTwice cTooMany cNoStep cNoLock [some (.val (.int 3)), some (.val (.int n)), some (.val (.str nm))] = some (.ok (.val (.tup [(.exc "TooMany" "most" cTooMany (.int n)), (.int n), (.int n)])), [some (.val (.int 3)), some (.val (.int n)), some (.val (.str nm))]) := by
  unfold mf__law_made b__law_made
  exists ap_mkM', ap_fldM, fldX_exc
theorem raised_TooMany (n : Int) (nm : Str) : mf__law_raised cCalmError cNoText cNoName cTwice cTooMany cNoStep cNoLock [some (.val (.int 3)), some (.val (.int n)), some (.val (.str nm))] = some (.err "TooMany" (.int n), [some (.val (.int 3)), some (.val (.int n)), some (.val (.str nm))]) := by
  unfold mf__law_raised b__law_raised
  exists ap_raiseS
theorem turn_TooMany (ns : List Int) (n : Int) (nm : Str) (o3 o4 o5 o6 : Option RV) : ∃ o4' o5' : Option RV, for1 (.name 3) (b_law_1 cCalmError cNoText cNoName cTwice cTooMany cNoStep cNoLock) (.int 3) [some (.val (.scr ns)), some (.val (.int n)), some (.val (.str nm)), o3, o4, o5, o6, none] = some [some (.val (.scr ns)), some (.val (.int n)), some (.val (.str nm)), some (.val (.int 3)), o4', o5', none, none] := by
  have a := ec_TooMany cNoText cNoName cTwice cTooMany cNoStep cNoLock
  have k := kinds_TooMany cCalmError cNoText cNoName cTwice cTooMany cNoStep cNoLock n nm
  have m := made_TooMany cCalmError cNoText cNoName cTwice cTooMany cNoStep cNoLock n nm
  have r := raised_TooMany cCalmError cNoText cNoName cTwice cTooMany cNoStep cNoLock n nm
  have tk := tk_TooMany
  have q1 : neD (.int n) (.int n) = some (.bl false) := ne_self rfl (by simp [deepD])
  have q2 : neD (.lst [.bl false, .bl false, .bl false, .bl true, .bl false, .bl false]) (.lst [.bl false, .bl false, .bl false, .bl true, .bl false, .bl false]) = some (.bl false) := rfl
  have w : lcGo [7] (.name 7) (Dt.ret true) (binV eqD (.slot 7) (.slot 3)) ((List.range 6).map fun k : Nat => D.int ((k : Nat) : Int)) [some (.val (.scr ns)), some (.val (.int n)), some (.val (.str nm)), some (.val (.int 3)), some (.val (.tup [(.exc "TooMany" "most" cTooMany (.int n)), (.int n), (.int n)])), o5, o6, none] = some (.ok [.bl false, .bl false, .bl false, .bl true, .bl false, .bl false], [some (.val (.scr ns)), some (.val (.int n)), some (.val (.str nm)), some (.val (.int 3)), some (.val (.tup [(.exc "TooMany" "most" cTooMany (.int n)), (.int n), (.int n)])), o5, o6, none]) :=
    lcGo_map (enc := fun k : Nat => D.int ((k : Nat) : Int)) (fun k : Nat => D.bl (((k : Nat) : Int) == 3)) (List.range 6) fun j _ => by exists eq_int
  have rg := range_at (j := 6) (n := 6) rfl (by omega)
  have at_ : itemD (.lst [.bl false, .bl false, .bl false, .bl true, .bl false, .bl false]) (.int 3) = some (.bl true) := rfl
  unfold b_law_1
  exists m, ap_isXM, isXD_exc, a, lk_TooMany_None, q1, k, rg, w, q2, ap_tryK, r, tk, at_
  exact ⟨_, _, rfl⟩
theorem kinds_NoStep (n : Int) (nm : Str) : mf__law_kinds cCalmError cNoText cNoName cTwice cTooMany cNoStep cNoLock [some (.val (.exc "NoStep" "place" cNoStep (.int n)))] = some (.ok (.own (.lst [.bl false, .bl false, .bl false, .bl false, .bl true, .bl false])), [some (.val (.exc "NoStep" "place" cNoStep (.int n)))]) := by
  have a := ec_NoStep cNoText cNoName cTwice cTooMany cNoStep cNoLock
  unfold mf__law_kinds b__law_kinds
  exists ap_isXM, isXD_exc, a, lk_NoStep_NoText, lk_NoStep_NoName, lk_NoStep_Twice, lk_NoStep_TooMany, lk_NoStep_NoStep, lk_NoStep_NoLock, lk_NoStep_None
theorem made_NoStep (n : Int) (nm : Str) : mf__law_made cCalmError cNoText cNoName cTwice cTooMany cNoStep cNoLock [some (.val (.int 4)), some (.val (.int n)), some (.val (.str nm))] = some (.ok (.val (.tup [(.exc "NoStep" "place" cNoStep (.int n)), (.int n), (.int n)])), [some (.val (.int 4)), some (.val (.int n)), some (.val (.str nm))]) := by
  unfold mf__law_made b__law_made
  exists ap_mkM', ap_fldM, fldX_exc
theorem raised_NoStep (n : Int) (nm : Str) : mf__law_raised cCalmError cNoText cNoName cTwice cTooMany cNoStep cNoLock [some (.val (.int 4)), some (.val (.int n)), some (.val (.str nm))] = some (.err "NoStep" (.int n), [some (.val (.int 4)), some (.val (.int n)), some (.val (.str nm))]) := by
  unfold mf__law_raised b__law_raised
  exists ap_raiseS
theorem turn_NoStep (ns : List Int) (n : Int) (nm : Str) (o3 o4 o5 o6 : Option RV) : ∃ o4' o5' : Option RV, for1 (.name 3) (b_law_1 cCalmError cNoText cNoName cTwice cTooMany cNoStep cNoLock) (.int 4) [some (.val (.scr ns)), some (.val (.int n)), some (.val (.str nm)), o3, o4, o5, o6, none] = some [some (.val (.scr ns)), some (.val (.int n)), some (.val (.str nm)), some (.val (.int 4)), o4', o5', none, none] := by
  have a := ec_NoStep cNoText cNoName cTwice cTooMany cNoStep cNoLock
  have k := kinds_NoStep cCalmError cNoText cNoName cTwice cTooMany cNoStep cNoLock n nm
  have m := made_NoStep cCalmError cNoText cNoName cTwice cTooMany cNoStep cNoLock n nm
  have r := raised_NoStep cCalmError cNoText cNoName cTwice cTooMany cNoStep cNoLock n nm
  have tk := tk_NoStep
  have q1 : neD (.int n) (.int n) = some (.bl false) := ne_self rfl (by simp [deepD])
  have q2 : neD (.lst [.bl false, .bl false, .bl false, .bl false, .bl true, .bl false]) (.lst [.bl false, .bl false, .bl false, .bl false, .bl true, .bl false]) = some (.bl false) := rfl
  have w : lcGo [7] (.name 7) (Dt.ret true) (binV eqD (.slot 7) (.slot 3)) ((List.range 6).map fun k : Nat => D.int ((k : Nat) : Int)) [some (.val (.scr ns)), some (.val (.int n)), some (.val (.str nm)), some (.val (.int 4)), some (.val (.tup [(.exc "NoStep" "place" cNoStep (.int n)), (.int n), (.int n)])), o5, o6, none] = some (.ok [.bl false, .bl false, .bl false, .bl false, .bl true, .bl false], [some (.val (.scr ns)), some (.val (.int n)), some (.val (.str nm)), some (.val (.int 4)), some (.val (.tup [(.exc "NoStep" "place" cNoStep (.int n)), (.int n), (.int n)])), o5, o6, none]) :=
    lcGo_map (enc := fun k : Nat => D.int ((k : Nat) : Int)) (fun k : Nat => D.bl (((k : Nat) : Int) == 4)) (List.range 6) fun j _ => by exists eq_int
  have rg := range_at (j := 6) (n := 6) rfl (by omega)
  have at_ : itemD (.lst [.bl false, .bl false, .bl false, .bl false, .bl true, .bl false]) (.int 4) = some (.bl true) := rfl
  unfold b_law_1
  exists m, ap_isXM, isXD_exc, a, lk_NoStep_None, q1, k, rg, w, q2, ap_tryK, r, tk, at_
  exact ⟨_, _, rfl⟩
theorem kinds_NoLock (n : Int) (nm : Str) : mf__law_kinds cCalmError cNoText cNoName cTwice cTooMany cNoStep cNoLock [some (.val (.exc "NoLock" "step" cNoLock (.int n)))] = some (.ok (.own (.lst [.bl false, .bl false, .bl false, .bl false, .bl false, .bl true])), [some (.val (.exc "NoLock" "step" cNoLock (.int n)))]) := by
  have a := ec_NoLock cNoText cNoName cTwice cTooMany cNoStep cNoLock
  unfold mf__law_kinds b__law_kinds
  exists ap_isXM, isXD_exc, a, lk_NoLock_NoText, lk_NoLock_NoName, lk_NoLock_Twice, lk_NoLock_TooMany, lk_NoLock_NoStep, lk_NoLock_NoLock, lk_NoLock_None
theorem made_NoLock (n : Int) (nm : Str) : mf__law_made cCalmError cNoText cNoName cTwice cTooMany cNoStep cNoLock [some (.val (.int 5)), some (.val (.int n)), some (.val (.str nm))] = some (.ok (.val (.tup [(.exc "NoLock" "step" cNoLock (.int n)), (.int n), (.int n)])), [some (.val (.int 5)), some (.val (.int n)), some (.val (.str nm))]) := by
  unfold mf__law_made b__law_made
  exists ap_mkM', ap_fldM, fldX_exc
theorem raised_NoLock (n : Int) (nm : Str) : mf__law_raised cCalmError cNoText cNoName cTwice cTooMany cNoStep cNoLock [some (.val (.int 5)), some (.val (.int n)), some (.val (.str nm))] = some (.err "NoLock" (.int n), [some (.val (.int 5)), some (.val (.int n)), some (.val (.str nm))]) := by
  unfold mf__law_raised b__law_raised
  exists ap_raiseS
theorem turn_NoLock (ns : List Int) (n : Int) (nm : Str) (o3 o4 o5 o6 : Option RV) : ∃ o4' o5' : Option RV, for1 (.name 3) (b_law_1 cCalmError cNoText cNoName cTwice cTooMany cNoStep cNoLock) (.int 5) [some (.val (.scr ns)), some (.val (.int n)), some (.val (.str nm)), o3, o4, o5, o6, none] = some [some (.val (.scr ns)), some (.val (.int n)), some (.val (.str nm)), some (.val (.int 5)), o4', o5', none, none] := by
  have a := ec_NoLock cNoText cNoName cTwice cTooMany cNoStep cNoLock
  have k := kinds_NoLock cCalmError cNoText cNoName cTwice cTooMany cNoStep cNoLock n nm
  have m := made_NoLock cCalmError cNoText cNoName cTwice cTooMany cNoStep cNoLock n nm
  have r := raised_NoLock cCalmError cNoText cNoName cTwice cTooMany cNoStep cNoLock n nm
  have tk := tk_NoLock
  have q1 : neD (.int n) (.int n) = some (.bl false) := ne_self rfl (by simp [deepD])
  have q2 : neD (.lst [.bl false, .bl false, .bl false, .bl false, .bl false, .bl true]) (.lst [.bl false, .bl false, .bl false, .bl false, .bl false, .bl true]) = some (.bl false) := rfl
  have w : lcGo [7] (.name 7) (Dt.ret true) (binV eqD (.slot 7) (.slot 3)) ((List.range 6).map fun k : Nat => D.int ((k : Nat) : Int)) [some (.val (.scr ns)), some (.val (.int n)), some (.val (.str nm)), some (.val (.int 5)), some (.val (.tup [(.exc "NoLock" "step" cNoLock (.int n)), (.int n), (.int n)])), o5, o6, none] = some (.ok [.bl false, .bl false, .bl false, .bl false, .bl false, .bl true], [some (.val (.scr ns)), some (.val (.int n)), some (.val (.str nm)), some (.val (.int 5)), some (.val (.tup [(.exc "NoLock" "step" cNoLock (.int n)), (.int n), (.int n)])), o5, o6, none]) :=
    lcGo_map (enc := fun k : Nat => D.int ((k : Nat) : Int)) (fun k : Nat => D.bl (((k : Nat) : Int) == 5)) (List.range 6) fun j _ => by exists eq_int
  have rg := range_at (j := 6) (n := 6) rfl (by omega)
  have at_ : itemD (.lst [.bl false, .bl false, .bl false, .bl false, .bl false, .bl true]) (.int 5) = some (.bl true) := rfl
  unfold b_law_1
  exists m, ap_isXM, isXD_exc, a, lk_NoLock_None, q1, k, rg, w, q2, ap_tryK, r, tk, at_
  exact ⟨_, _, rfl⟩
end
theorem cell_at (cCalmError cNoText cNoName cTwice cTooMany cNoStep cNoLock : Addr) (ns : List Int) (k : Int) (hk : 0 ≤ k) : mf__law_cell_at cCalmError cNoText cNoName cTwice cTooMany cNoStep cNoLock [some (.val (.scr ns)), some (.val (.int k))] = some (.ok (.val (.int (ns.getD k.toNat 0))), [some (.val (.scr ns)), some (.val (.int k))]) := by
  unfold mf__law_cell_at b__law_cell_at
  by_cases h : k < ns.length
  · exists h, atI_pos 0 hk h
  · exists h
    rw [List.getD_eq_getElem?_getD, List.getElem?_eq_none (by omega)]
    first | done | rfl
theorem law_true : ∀ (cCalmError cNoText cNoName cTwice cTooMany cNoStep cNoLock : Addr) (ns : List Int), ns.length ≤ 63 → ∃ s', mf_law cCalmError cNoText cNoName cTwice cTooMany cNoStep cNoLock [some (.val (.scr ns))] = some (.ok (.val (.bl true)), s') := by
  intro cCalmError cNoText cNoName cTwice cTooMany cNoStep cNoLock ns hns
  have c0 := cell_at cCalmError cNoText cNoName cTwice cTooMany cNoStep cNoLock ns 0 (by decide)
  have c1 := cell_at cCalmError cNoText cNoName cTwice cTooMany cNoStep cNoLock ns 1 (by decide)
  have rg := range_at (j := 6) (n := 6) rfl (by omega)
  generalize ns.getD (0 : Int).toNat 0 = a at c0
  generalize ns.getD (1 : Int).toNat 0 = b at c1
  obtain ⟨nm, hs⟩ : ∃ nm : Str, sliceD (.str "qzxhilld") (some (b % 8)) none = some (.val (.str nm)) := by
    have e : b % 8 = 0 ∨ b % 8 = 1 ∨ b % 8 = 2 ∨ b % 8 = 3 ∨ b % 8 = 4 ∨ b % 8 = 5 ∨ b % 8 = 6 ∨ b % 8 = 7 := by omega
    rcases e with e | e | e | e | e | e | e | e <;> rw [e] <;> exact ⟨_, rfl⟩
  obtain ⟨p0, q0, t0⟩ := turn_NoText cCalmError cNoText cNoName cTwice cTooMany cNoStep cNoLock ns (a % 1000000) nm none none none none
  obtain ⟨p1, q1, t1⟩ := turn_NoName cCalmError cNoText cNoName cTwice cTooMany cNoStep cNoLock ns (a % 1000000) nm (some (.val (.int 0))) p0 q0 none
  obtain ⟨p2, q2, t2⟩ := turn_Twice cCalmError cNoText cNoName cTwice cTooMany cNoStep cNoLock ns (a % 1000000) nm (some (.val (.int 1))) p1 q1 none
  obtain ⟨p3, q3, t3⟩ := turn_TooMany cCalmError cNoText cNoName cTwice cTooMany cNoStep cNoLock ns (a % 1000000) nm (some (.val (.int 2))) p2 q2 none
  obtain ⟨p4, q4, t4⟩ := turn_NoStep cCalmError cNoText cNoName cTwice cTooMany cNoStep cNoLock ns (a % 1000000) nm (some (.val (.int 3))) p3 q3 none
  obtain ⟨p5, q5, t5⟩ := turn_NoLock cCalmError cNoText cNoName cTwice cTooMany cNoStep cNoLock ns (a % 1000000) nm (some (.val (.int 4))) p4 q4 none
  have e3 : forM (.name 3) (b_law_1 cCalmError cNoText cNoName cTwice cTooMany cNoStep cNoLock) ((List.range 6).map fun k : Nat => D.int ((k : Nat) : Int)) [some (.val (.scr ns)), some (.val (.int (a % 1000000))), some (.val (.str nm)), none, none, none, none, none] = some (.nx, [some (.val (.scr ns)), some (.val (.int (a % 1000000))), some (.val (.str nm)), some (.val (.int 5)), p5, q5, none, none]) := by
    show forM (.name 3) (b_law_1 cCalmError cNoText cNoName cTwice cTooMany cNoStep cNoLock) [.int 0, .int 1, .int 2, .int 3, .int 4, .int 5] _ = _
    rw [forM_cons t0, forM_cons t1, forM_cons t2, forM_cons t3, forM_cons t4, forM_cons t5]
    rfl
  refine ⟨[some (.val (.scr ns))], ?_⟩
  unfold mf_law b_law
  exists c0, c1, hs, rg, e3
end My

end
open PySem PySem.W PyProof.Rows in
set_option maxRecDepth 100000 in
set_option maxHeartbeats 0 in
theorem PySem.Challenge.cw_calm_k04_refusals_holds : PySem.Challenge.rw_calm_k04_refusals.Holds := by
  w_on; o_law; k_head; (case hw => w_witness2)
  k_fill
  refine My.walk (l := PySem.Challenge.rw_calm_k04_refusals) My.law_true rfl rfl (fun w h Y => PySem.W.kIn_of Y) ?F
  case F =>
    intro w mg fa h KX G hmg
    refine' My.all_mk KX G hmg ?a0 ?l0 ?e0 ?k0 ?a1 ?l1 ?e1 ?k1 ?a2 ?l2 ?e2 ?k2 ?a3 ?l3 ?e3 ?k3 ?a4 ?l4 ?e4 ?k4 ?nC_CalmError ?nC_NoLock ?nC_NoName ?nC_NoStep ?nC_NoText ?nC_TooMany ?nC_Twice ?xL_NoLock ?sa_NoLock ?ga_NoLock ?gg_NoLock ?no_NoLock ?ha_NoLock ?iC_NoLock ?kC_NoLock ?eC_NoLock ?tC_NoLock ?hC_NoLock ?mC_NoLock ?tI_NoLock ?lI_NoLock ?cI_NoLock ?kI_NoLock ?xL_NoText ?sa_NoText ?ga_NoText ?gg_NoText ?no_NoText ?ha_NoText ?iC_NoText ?kC_NoText ?eC_NoText ?tC_NoText ?hC_NoText ?mC_NoText ?tI_NoText ?lI_NoText ?cI_NoText ?kI_NoText ?xL_NoName ?sa_NoName ?ga_NoName ?gg_NoName ?no_NoName ?ha_NoName ?iC_NoName ?kC_NoName ?eC_NoName ?tC_NoName ?hC_NoName ?mC_NoName ?tI_NoName ?lI_NoName ?cI_NoName ?kI_NoName ?xL_Twice ?sa_Twice ?ga_Twice ?gg_Twice ?no_Twice ?ha_Twice ?iC_Twice ?kC_Twice ?eC_Twice ?tC_Twice ?hC_Twice ?mC_Twice ?tI_Twice ?lI_Twice ?cI_Twice ?kI_Twice ?xL_TooMany ?sa_TooMany ?ga_TooMany ?gg_TooMany ?no_TooMany ?ha_TooMany ?iC_TooMany ?kC_TooMany ?eC_TooMany ?tC_TooMany ?hC_TooMany ?mC_TooMany ?tI_TooMany ?lI_TooMany ?cI_TooMany ?kI_TooMany ?xL_NoStep ?sa_NoStep ?ga_NoStep ?gg_NoStep ?no_NoStep ?ha_NoStep ?iC_NoStep ?kC_NoStep ?eC_NoStep ?tC_NoStep ?hC_NoStep ?mC_NoStep ?tI_NoStep ?lI_NoStep ?cI_NoStep ?kI_NoStep ?sp_g ?sp_t ?eC_CalmError ?tC_CalmError ?hC_CalmError ?y_NoLock_bool ?y_NoLock_int ?y_NoLock_str ?y_NoLock_tuple ?y_NoLock_list ?y_NoLock_dict ?y_NoText_bool ?y_NoText_int ?y_NoText_str ?y_NoText_tuple ?y_NoText_list ?y_NoText_dict ?y_NoName_bool ?y_NoName_int ?y_NoName_str ?y_NoName_tuple ?y_NoName_list ?y_NoName_dict ?y_Twice_bool ?y_Twice_int ?y_Twice_str ?y_Twice_tuple ?y_Twice_list ?y_Twice_dict ?y_TooMany_bool ?y_TooMany_int ?y_TooMany_str ?y_TooMany_tuple ?y_TooMany_list ?y_TooMany_dict ?y_NoStep_bool ?y_NoStep_int ?y_NoStep_str ?y_NoStep_tuple ?y_NoStep_list ?y_NoStep_dict ?s_NoLock_CalmError ?s_NoLock_TooMany ?s_NoLock_Twice ?s_NoLock_NoName ?s_NoLock_NoText ?s_NoLock_NoLock ?s_NoLock_NoStep ?s_NoText_CalmError ?s_NoText_TooMany ?s_NoText_Twice ?s_NoText_NoName ?s_NoText_NoText ?s_NoText_NoLock ?s_NoText_NoStep ?s_NoName_CalmError ?s_NoName_TooMany ?s_NoName_Twice ?s_NoName_NoName ?s_NoName_NoText ?s_NoName_NoLock ?s_NoName_NoStep ?s_Twice_CalmError ?s_Twice_TooMany ?s_Twice_Twice ?s_Twice_NoName ?s_Twice_NoText ?s_Twice_NoLock ?s_Twice_NoStep ?s_TooMany_CalmError ?s_TooMany_TooMany ?s_TooMany_Twice ?s_TooMany_NoName ?s_TooMany_NoText ?s_TooMany_NoLock ?s_TooMany_NoStep ?s_NoStep_CalmError ?s_NoStep_TooMany ?s_NoStep_Twice ?s_NoStep_NoName ?s_NoStep_NoText ?s_NoStep_NoLock ?s_NoStep_NoStep ?s_NoLock_ValueError ?s_NoText_ValueError ?s_NoName_ValueError ?s_Twice_ValueError ?s_TooMany_ValueError ?s_NoStep_ValueError ?z_ValueError ?z_isinstance ?z_len ?z_range
    (case a0 => k_is)
    (case l0 => k_is)
    (case e0 => k_is)
    (case k0 => k_is)
    (case a1 => k_is)
    (case l1 => k_is)
    (case e1 => k_is)
    (case k1 => k_is)
    (case a2 => k_is)
    (case l2 => k_is)
    (case e2 => k_is)
    (case k2 => k_is)
    (case a3 => k_is)
    (case l3 => k_is)
    (case e3 => k_is)
    (case k3 => k_is)
    (case a4 => k_is)
    (case l4 => k_is)
    (case e4 => k_is)
    (case k4 => k_is)
    (case nC_CalmError => k_is)
    (case nC_NoLock => k_is)
    (case nC_NoName => k_is)
    (case nC_NoStep => k_is)
    (case nC_NoText => k_is)
    (case nC_TooMany => k_is)
    (case nC_Twice => k_is)
    (case xL_NoLock => k_is)
    (case sa_NoLock => k_is)
    (case ga_NoLock => k_is)
    (case gg_NoLock => k_is)
    (case no_NoLock => k_is)
    (case ha_NoLock => k_is)
    (case iC_NoLock => k_is)
    (case kC_NoLock => k_is)
    (case eC_NoLock => k_is)
    (case tC_NoLock => k_is)
    (case hC_NoLock => k_is)
    (case mC_NoLock => k_is)
    (case tI_NoLock => k_is)
    (case lI_NoLock => k_is)
    (case cI_NoLock => k_is)
    (case kI_NoLock => k_is)
    (case xL_NoText => k_is)
    (case sa_NoText => k_is)
    (case ga_NoText => k_is)
    (case gg_NoText => k_is)
    (case no_NoText => k_is)
    (case ha_NoText => k_is)
    (case iC_NoText => k_is)
    (case kC_NoText => k_is)
    (case eC_NoText => k_is)
    (case tC_NoText => k_is)
    (case hC_NoText => k_is)
    (case mC_NoText => k_is)
    (case tI_NoText => k_is)
    (case lI_NoText => k_is)
    (case cI_NoText => k_is)
    (case kI_NoText => k_is)
    (case xL_NoName => k_is)
    (case sa_NoName => k_is)
    (case ga_NoName => k_is)
    (case gg_NoName => k_is)
    (case no_NoName => k_is)
    (case ha_NoName => k_is)
    (case iC_NoName => k_is)
    (case kC_NoName => k_is)
    (case eC_NoName => k_is)
    (case tC_NoName => k_is)
    (case hC_NoName => k_is)
    (case mC_NoName => k_is)
    (case tI_NoName => k_is)
    (case lI_NoName => k_is)
    (case cI_NoName => k_is)
    (case kI_NoName => k_is)
    (case xL_Twice => k_is)
    (case sa_Twice => k_is)
    (case ga_Twice => k_is)
    (case gg_Twice => k_is)
    (case no_Twice => k_is)
    (case ha_Twice => k_is)
    (case iC_Twice => k_is)
    (case kC_Twice => k_is)
    (case eC_Twice => k_is)
    (case tC_Twice => k_is)
    (case hC_Twice => k_is)
    (case mC_Twice => k_is)
    (case tI_Twice => k_is)
    (case lI_Twice => k_is)
    (case cI_Twice => k_is)
    (case kI_Twice => k_is)
    (case xL_TooMany => k_is)
    (case sa_TooMany => k_is)
    (case ga_TooMany => k_is)
    (case gg_TooMany => k_is)
    (case no_TooMany => k_is)
    (case ha_TooMany => k_is)
    (case iC_TooMany => k_is)
    (case kC_TooMany => k_is)
    (case eC_TooMany => k_is)
    (case tC_TooMany => k_is)
    (case hC_TooMany => k_is)
    (case mC_TooMany => k_is)
    (case tI_TooMany => k_is)
    (case lI_TooMany => k_is)
    (case cI_TooMany => k_is)
    (case kI_TooMany => k_is)
    (case xL_NoStep => k_is)
    (case sa_NoStep => k_is)
    (case ga_NoStep => k_is)
    (case gg_NoStep => k_is)
    (case no_NoStep => k_is)
    (case ha_NoStep => k_is)
    (case iC_NoStep => k_is)
    (case kC_NoStep => k_is)
    (case eC_NoStep => k_is)
    (case tC_NoStep => k_is)
    (case hC_NoStep => k_is)
    (case mC_NoStep => k_is)
    (case tI_NoStep => k_is)
    (case lI_NoStep => k_is)
    (case cI_NoStep => k_is)
    (case kI_NoStep => k_is)
    (case sp_g => k_is)
    (case sp_t => k_is)
    (case eC_CalmError => k_is)
    (case tC_CalmError => k_is)
    (case hC_CalmError => k_is)
    (case y_NoLock_bool => k_is)
    (case y_NoLock_int => k_is)
    (case y_NoLock_str => k_is)
    (case y_NoLock_tuple => k_is)
    (case y_NoLock_list => k_is)
    (case y_NoLock_dict => k_is)
    (case y_NoText_bool => k_is)
    (case y_NoText_int => k_is)
    (case y_NoText_str => k_is)
    (case y_NoText_tuple => k_is)
    (case y_NoText_list => k_is)
    (case y_NoText_dict => k_is)
    (case y_NoName_bool => k_is)
    (case y_NoName_int => k_is)
    (case y_NoName_str => k_is)
    (case y_NoName_tuple => k_is)
    (case y_NoName_list => k_is)
    (case y_NoName_dict => k_is)
    (case y_Twice_bool => k_is)
    (case y_Twice_int => k_is)
    (case y_Twice_str => k_is)
    (case y_Twice_tuple => k_is)
    (case y_Twice_list => k_is)
    (case y_Twice_dict => k_is)
    (case y_TooMany_bool => k_is)
    (case y_TooMany_int => k_is)
    (case y_TooMany_str => k_is)
    (case y_TooMany_tuple => k_is)
    (case y_TooMany_list => k_is)
    (case y_TooMany_dict => k_is)
    (case y_NoStep_bool => k_is)
    (case y_NoStep_int => k_is)
    (case y_NoStep_str => k_is)
    (case y_NoStep_tuple => k_is)
    (case y_NoStep_list => k_is)
    (case y_NoStep_dict => k_is)
    (case s_NoLock_CalmError => k_is)
    (case s_NoLock_TooMany => k_is)
    (case s_NoLock_Twice => k_is)
    (case s_NoLock_NoName => k_is)
    (case s_NoLock_NoText => k_is)
    (case s_NoLock_NoLock => k_is)
    (case s_NoLock_NoStep => k_is)
    (case s_NoText_CalmError => k_is)
    (case s_NoText_TooMany => k_is)
    (case s_NoText_Twice => k_is)
    (case s_NoText_NoName => k_is)
    (case s_NoText_NoText => k_is)
    (case s_NoText_NoLock => k_is)
    (case s_NoText_NoStep => k_is)
    (case s_NoName_CalmError => k_is)
    (case s_NoName_TooMany => k_is)
    (case s_NoName_Twice => k_is)
    (case s_NoName_NoName => k_is)
    (case s_NoName_NoText => k_is)
    (case s_NoName_NoLock => k_is)
    (case s_NoName_NoStep => k_is)
    (case s_Twice_CalmError => k_is)
    (case s_Twice_TooMany => k_is)
    (case s_Twice_Twice => k_is)
    (case s_Twice_NoName => k_is)
    (case s_Twice_NoText => k_is)
    (case s_Twice_NoLock => k_is)
    (case s_Twice_NoStep => k_is)
    (case s_TooMany_CalmError => k_is)
    (case s_TooMany_TooMany => k_is)
    (case s_TooMany_Twice => k_is)
    (case s_TooMany_NoName => k_is)
    (case s_TooMany_NoText => k_is)
    (case s_TooMany_NoLock => k_is)
    (case s_TooMany_NoStep => k_is)
    (case s_NoStep_CalmError => k_is)
    (case s_NoStep_TooMany => k_is)
    (case s_NoStep_Twice => k_is)
    (case s_NoStep_NoName => k_is)
    (case s_NoStep_NoText => k_is)
    (case s_NoStep_NoLock => k_is)
    (case s_NoStep_NoStep => k_is)
    (case s_NoLock_ValueError => k_is)
    (case s_NoText_ValueError => k_is)
    (case s_NoName_ValueError => k_is)
    (case s_Twice_ValueError => k_is)
    (case s_TooMany_ValueError => k_is)
    (case s_NoStep_ValueError => k_is)
    (case z_ValueError => k_is)
    (case z_isinstance => k_is)
    (case z_len => k_is)
    (case z_range => k_is)
